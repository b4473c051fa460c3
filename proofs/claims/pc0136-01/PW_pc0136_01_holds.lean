import PyProof.Rows.All
import Wide.All
import OpenK.AllK
import Wide.FinOn
import PySem.Challenge.RW_pc0136_01
open PySem PySem.W PySem.Calls PyProof.Rows
set_option Elab.async false
set_option maxRecDepth 100000
set_option linter.unusedVariables false
set_option maxHeartbeats 0
namespace Mine
noncomputable abbrev P : Program := PySem.Challenge.pw_pc0136_01
noncomputable abbrev LW : OpenLaw := PySem.Challenge.rw_pc0136_01
noncomputable abbrev lkA : Look := { strict := false, foot := none, bare := [] }
/-- statement i of the top -/
noncomputable def stAt (i : Nat) : Stmt := match P.main.body[i]? with
  | some s => s
  | none => .Pass ⟨0, 0, 0, 0⟩
noncomputable def resOf : Stmt → Str
  | .Assign _ (.Constant (.str x) _ _) _ => x
  | _ => ⟨#[]⟩
noncomputable abbrev RES : Str := resOf (stAt 20)
theorem res_stmt : ∃ ts p1 p2 k, P.main.body[20]? = some (.Assign ts (.Constant (.str RES) k p1) p2) ∧ lkA.stores ts = true ∧ noRoadLs lkA ts = true := by
  refine ⟨_, _, _, _, rfl, ?_, ?_⟩ <;> decide +kernel
noncomputable def resS : String := by
  refine (fun (s : String) (_ : RES = Str.ofString s) => s) ?b ?h
  case h => with_unfolding_all exact rfl
noncomputable def resChars : List Char := by
  refine (fun (l : List Char) (_ : resS = String.ofList l) => l) ?b ?h
  case h => (unfold resS; exact rfl)
theorem res_str0 : RES = Str.ofString (String.ofList resChars) := by kernel_rfl
noncomputable def resCodes : List Nat := resChars.map Char.toNat
theorem res_codes : RES = ⟨resCodes.toArray⟩ := by rw [res_str0, Fast.ofString_ofList]; rfl
theorem res_size : RES.cps.size = 1860 := by rw [res_codes]; decide +kernel
theorem not_in_short {l : List Str} (h : l.all (fun y => Nat.blt y.cps.size 1860) = true) : l.contains RES = false := by
  cases q : l.contains RES with
  | false => rfl
  | true =>
    have m := List.contains_iff_mem.mp q
    have := List.all_eq_true.mp h RES m
    rw [res_size] at this
    exact absurd this (by decide)
theorem res_str : lkA.str RES = true := by
  have hw : lkA.word RES = true := by
    unfold Look.word attrL
    rw [not_in_short (by decide +kernel)]
    have ho : RES.opensWith "__" = false := by rw [res_codes]; decide +kernel
    rw [ho]
    rfl
  have hr : roadStr RES = false := by
    unfold roadStr
    have a1 : RES.cps.any (fun c => c == 123 || c == 125) = false := by rw [res_codes, List.any_toArray]; decide +kernel
    have a2 : RES.cps.any (· == 46) = false := by rw [res_codes, List.any_toArray]; decide +kernel
    rw [a1, a2]; rfl
  unfold Look.str
  rw [hw, hr, Bool.or_true]; rfl
theorem res_look : noRoadLSs lkA ((P.main.body.drop 20).take 1) = true := by
  obtain ⟨ts, p1, p2, k, e, h1, h2⟩ := res_stmt
  have e2 : (P.main.body.drop 20).take 1 = [.Assign ts (.Constant (.str RES) k p1) p2] := by
    rw [List.take_one, List.head?_drop, e]; rfl
  rw [e2]
  show (lkA.stores ts && noRoadLs lkA ts && lkA.str RES && true) = true
  rw [h1, h2, res_str]; rfl
theorem noRoad_append (lk : Look) : ∀ a b : List Stmt, noRoadLSs lk (a ++ b) = (noRoadLSs lk a && noRoadLSs lk b)
  | [], b => by simp [noRoadLSs]
  | s :: a, b => by rw [List.cons_append, noRoadLSs, noRoadLSs, noRoad_append lk a b, Bool.and_assoc]
theorem look_all : noRoadLSs lkA P.main.body = true := by
  have e : P.main.body = P.main.body.take 20 ++ ((P.main.body.drop 20).take 1 ++ P.main.body.drop 21) := by
    have q : P.main.body.drop 21 = (P.main.body.drop 20).drop 1 := by rw [List.drop_drop]
    rw [q, List.take_append_drop, List.take_append_drop]
  rw [e, noRoad_append, noRoad_append, res_look, Bool.true_and]
  have a0 : noRoadLSs lkA (P.main.body.take 20) = true := by decide +kernel
  have a1 : noRoadLSs lkA (P.main.body.drop 21) = true := by decide +kernel
  rw [a0, a1]; rfl
theorem looks_ok : looksOpen P = true := by
  have h1 : (!(importedModules P.main.body).all cThrough.contains) = false := by decide +kernel
  have h2 : (["vars", "dir", "locals"] : List Str).filter (readsOut P P.main.body) = [] := by decide +kernel
  unfold looksOpen
  rw [h1, h2, look_all]
  have t1 : (sreFenced P.main && ((moduleNames P.main.body).isEmpty || lookedIntoSs (moduleNames P.main.body) P.main.body)) = true := by decide +kernel
  have t2 : namesResolve P = true := by decide +kernel
  have t3 : (P.boundNames.all (fun n => !worldNames.contains n)) = true := by decide +kernel
  have t4 : (namesMeet P P.main.body fun _ n => attrL n) = true := by decide +kernel
  rw [t1, t2, t3, t4]; rfl
theorem row_ok : LW.row.wellSaid = true := by
  unfold OpenRow.wellSaid OpenRow.partSaid
  have hl : looksOpen LW.row.prog = true := looks_ok
  rw [hl]
  decide +kernel
theorem said : LW.wellSaid = true := by
  unfold OpenLaw.wellSaid
  rw [row_ok]
  decide +kernel
noncomputable def inCls (s : Stmt) (j : Nat) : Stmt := match s with
  | .ClassDef _ _ _ b _ _ _ _ _ _ _ => (match b[j]? with
    | some s => s
    | none => .Pass ⟨0, 0, 0, 0⟩)
  | _ => .Pass ⟨0, 0, 0, 0⟩
noncomputable def pOf : Stmt → Arguments
  | .FunctionDef _ a _ _ _ _ _ _ _ _ => a
  | _ => ⟨[], [], none, [], [], none, []⟩
noncomputable def bOf : Stmt → List Stmt
  | .FunctionDef _ _ b _ _ _ _ _ _ _ => b
  | _ => []
noncomputable def sOf : Stmt → Scope
  | .FunctionDef _ _ _ _ _ _ s _ _ _ => s
  | _ => ⟨.function, [], false, false, []⟩
noncomputable abbrev o_2 (P : Params) : Obj := ⟨.none, none, (.dict (List.toArray [⟨PyData.keyHash P (.ofString "type.__subclasses__.Exception.0"), (.str (.ofString "type.__subclasses__.Exception.0") 232), (.int 47 0)⟩, ⟨PyData.keyHash P (.ofString "type.__subclasses__.Exception.n"), (.str (.ofString "type.__subclasses__.Exception.n") 233), (.int 1 0)⟩]) 2), #[]⟩
noncomputable abbrev o_3 (P : Params) : Obj := ⟨(.type "dict"), none, (.dict (List.toArray [⟨PyData.keyHash P (.ofString "__name__"), (.str (.ofString "__name__") 165), (.str (.ofString "law_pc0136_01") 657)⟩, ⟨PyData.keyHash P (.ofString "__doc__"), (.str (.ofString "__doc__") 166), .none⟩, ⟨PyData.keyHash P (.ofString "__package__"), (.str (.ofString "__package__") 167), .none⟩, ⟨PyData.keyHash P (.ofString "__loader__"), (.str (.ofString "__loader__") 168), (.builtin "__main__.__loader__#opaque")⟩, ⟨PyData.keyHash P (.ofString "__spec__"), (.str (.ofString "__spec__") 169), .none⟩, ⟨PyData.keyHash P (.ofString "__annotations__"), (.str (.ofString "__annotations__") 170), (.ref 6)⟩, ⟨PyData.keyHash P (.ofString "__builtins__"), (.str (.ofString "__builtins__") 171), (.ref 4)⟩, ⟨PyData.keyHash P (.ofString "__file__"), (.str (.ofString "__file__") 173), (.str (.ofString "/claim/cut.py") 172)⟩, ⟨PyData.keyHash P (.ofString "__cached__"), (.str (.ofString "__cached__") 174), .none⟩, ⟨PyData.keyHash P (.ofString "_wall"), (.str (.ofString "_wall") 193), (.ref 21)⟩, ⟨PyData.keyHash P (.ofString "LedgerError"), (.str (.ofString "LedgerError") 235), (.ref 47)⟩, ⟨PyData.keyHash P (.ofString "GrammarFault"), (.str (.ofString "GrammarFault") 251), (.ref 60)⟩, ⟨PyData.keyHash P (.ofString "ORGANIZATIONS"), (.str (.ofString "ORGANIZATIONS") 257), (.ref 63)⟩, ⟨PyData.keyHash P (.ofString "ACCESSES"), (.str (.ofString "ACCESSES") 261), (.ref 64)⟩, ⟨PyData.keyHash P (.ofString "FileSpec"), (.str (.ofString "FileSpec") 307), (.ref 88)⟩, ⟨PyData.keyHash P (.ofString "one_word"), (.str (.ofString "one_word") 316), (.ref 99)⟩, ⟨PyData.keyHash P (.ofString "read_assign"), (.str (.ofString "read_assign") 324), (.ref 106)⟩, ⟨PyData.keyHash P (.ofString "read_record_key"), (.str (.ofString "read_record_key") 332), (.ref 113)⟩, ⟨PyData.keyHash P (.ofString "read_alternate"), (.str (.ofString "read_alternate") 338), (.ref 118)⟩, ⟨PyData.keyHash P (.ofString "read_relative"), (.str (.ofString "read_relative") 346), (.ref 125)⟩, ⟨PyData.keyHash P (.ofString "read_clause"), (.str (.ofString "read_clause") 354), (.ref 132)⟩, ⟨PyData.keyHash P (.ofString "is_whole_spec"), (.str (.ofString "is_whole_spec") 361), (.ref 139)⟩, ⟨PyData.keyHash P (.ofString "read_select"), (.str (.ofString "read_select") 373), (.ref 146)⟩, ⟨PyData.keyHash P (.ofString "is_behind"), (.str (.ofString "is_behind") 380), (.ref 153)⟩, ⟨PyData.keyHash P (.ofString "pass_configuration"), (.str (.ofString "pass_configuration") 387), (.ref 160)⟩, ⟨PyData.keyHash P (.ofString "read_environment"), (.str (.ofString "read_environment") 397), (.ref 167)⟩, ⟨PyData.keyHash P (.ofString "RESERVED"), (.str (.ofString "RESERVED") 401), (.str RES 400)⟩, ⟨PyData.keyHash P (.ofString "is_reserved"), (.str (.ofString "is_reserved") 408), (.ref 174)⟩, ⟨PyData.keyHash P (.ofString "Reader"), (.str (.ofString "Reader") 610), (.ref 343)⟩, ⟨PyData.keyHash P (.ofString "Token"), (.str (.ofString "Token") 656), (.ref 373)⟩, ⟨PyData.keyHash P (.ofString "_law_draw"), (.str (.ofString "_law_draw") 668), (.ref 384)⟩, ⟨PyData.keyHash P (.ofString "_law_tokens"), (.str (.ofString "_law_tokens") 677), (.ref 391)⟩, ⟨PyData.keyHash P (.ofString "_law_select"), (.str (.ofString "_law_select") 683), (.ref 396)⟩, ⟨PyData.keyHash P (.ofString "_law_refused"), (.str (.ofString "_law_refused") 690), (.ref 403)⟩, ⟨PyData.keyHash P (.ofString "law"), (.str (.ofString "law") 696), (.ref 408)⟩]) 35), #[]⟩
noncomputable abbrev o_29 (P : Params) : Obj := ⟨(.type "tuple"), none, (.seq #[(.int 0 208), (.int 0 209)] 0), #[]⟩
noncomputable abbrev o_30 (P : Params) : Obj := ⟨(.type "tuple"), none, (.seq #[(.ref 29)] 0), #[]⟩
noncomputable abbrev o_36 (P : Params) : Obj := ⟨(.type "code"), none, (.fields #[(.str (.ofString "__init__") 210), (.str (.ofString "LedgerError.__init__") 211), (.str (.ofString "/claim/cut.py") 212), (.int 7 0), (.int 3 0), (.int 0 0), (.int 0 0), (.int 3 0), (.ref 31), (.bool true), (.int 181 0), (.ref 32), .none, (.ref 33), (.ref 34), (.ref 35), (.int 216 0), (.int 7 0), (.str (.ofString "/claim/cut.py") 217)]), #[]⟩
noncomputable abbrev p_37 : Arguments := by
  refine (fun (x : Arguments) (_ : pOf (inCls (stAt 2) 0) = x) => x) ?b ?h
  case h =>
    conv => lhs; whnf
noncomputable abbrev b_37 : List Stmt := by
  refine (fun (x : List Stmt) (_ : bOf (inCls (stAt 2) 0) = x) => x) ?b ?h
  case h =>
    conv => lhs; whnf
noncomputable abbrev s_37 : Scope := by
  refine (fun (x : Scope) (_ : sOf (inCls (stAt 2) 0) = x) => x) ?b ?h
  case h =>
    conv => lhs; whnf
noncomputable abbrev o_37 (P : Params) : Obj := ⟨(.type "function"), none, (.func ⟨(.ofString "__init__"), (.ofString "LedgerError.__init__"), p_37, .stmts b_37, s_37, 3, [], (.ref 30), .none, .none, (.str (.ofString "ledgerspeak.errors") 194), none, (.ref 36), .none, 0⟩), #[]⟩
noncomputable abbrev o_46 (P : Params) : Obj := ⟨(.type "dict"), none, (.dict (List.toArray [⟨PyData.keyHash P (.ofString "__module__"), (.str (.ofString "__module__") 203), (.str (.ofString "ledgerspeak.errors") 194)⟩, ⟨PyData.keyHash P (.ofString "__firstlineno__"), (.str (.ofString "__firstlineno__") 207), (.int 5 206)⟩, ⟨PyData.keyHash P (.ofString "__init__"), (.str (.ofString "__init__") 218), (.ref 37)⟩, ⟨PyData.keyHash P (.ofString "told"), (.str (.ofString "told") 225), (.ref 44)⟩, ⟨PyData.keyHash P (.ofString "__static_attributes__"), (.str (.ofString "__static_attributes__") 228), (.ref 45)⟩, ⟨PyData.keyHash P (.ofString "__weakref__"), (.str (.ofString "__weakref__") 230), (.ref 48)⟩, ⟨PyData.keyHash P (.ofString "__doc__"), (.str (.ofString "__doc__") 231), .none⟩]) 3), #[]⟩
noncomputable abbrev o_47 (P : Params) : Obj := ⟨(.type "type"), none, (.cls ⟨(.ofString "LedgerError"), [(.type "Exception")], [(.ref 47), (.type "Exception"), (.type "BaseException"), (.type "object")], 46, (.ofString "LedgerError"), true, [], [(.ref 60)], false, none, false⟩), #[(some (.ref 22)), none, (some (.str (.ofString "LedgerError") 196)), (some (.str (.ofString "LedgerError") 204)), (some (.builtin "Exception.__new__")), (some (.bool true))]⟩
noncomputable abbrev o_59 (P : Params) : Obj := ⟨(.type "dict"), none, (.dict (List.toArray [⟨PyData.keyHash P (.ofString "__module__"), (.str (.ofString "__module__") 243), (.str (.ofString "ledgerspeak.errors") 194)⟩, ⟨PyData.keyHash P (.ofString "__firstlineno__"), (.str (.ofString "__firstlineno__") 247), (.int 14 246)⟩, ⟨PyData.keyHash P (.ofString "__static_attributes__"), (.str (.ofString "__static_attributes__") 248), (.ref 58)⟩, ⟨PyData.keyHash P (.ofString "__doc__"), (.str (.ofString "__doc__") 249), .none⟩]) 2), #[]⟩
noncomputable abbrev o_60 (P : Params) : Obj := ⟨(.type "type"), none, (.cls ⟨(.ofString "GrammarFault"), [(.ref 47)], [(.ref 60), (.ref 47), (.type "Exception"), (.type "BaseException"), (.type "object")], 59, (.ofString "GrammarFault"), true, [], [], false, none, false⟩), #[(some (.ref 51)), none, (some (.str (.ofString "GrammarFault") 236)), (some (.str (.ofString "GrammarFault") 244)), (some (.builtin "Exception.__new__")), (some (.bool true))]⟩
noncomputable abbrev o_63 (P : Params) : Obj := ⟨(.type "tuple"), none, (.seq #[(.str (.ofString "SEQUENTIAL") 254), (.str (.ofString "RELATIVE") 255), (.str (.ofString "INDEXED") 256)] 0), #[]⟩
noncomputable abbrev o_64 (P : Params) : Obj := ⟨(.type "tuple"), none, (.seq #[(.str (.ofString "SEQUENTIAL") 258), (.str (.ofString "RANDOM") 259), (.str (.ofString "DYNAMIC") 260)] 0), #[]⟩
noncomputable abbrev o_77 (P : Params) : Obj := ⟨(.type "code"), none, (.fields #[(.str (.ofString "__init__") 274), (.str (.ofString "FileSpec.__init__") 275), (.str (.ofString "/claim/cut.py") 276), (.int 21 0), (.int 2 0), (.int 0 0), (.int 0 0), (.int 3 0), (.ref 72), (.bool true), (.int 181 0), (.ref 73), .none, (.ref 74), (.ref 75), (.ref 76), (.int 279 0), (.int 21 0), (.str (.ofString "/claim/cut.py") 280)]), #[]⟩
noncomputable abbrev p_78 : Arguments := by
  refine (fun (x : Arguments) (_ : pOf (inCls (stAt 7) 0) = x) => x) ?b ?h
  case h =>
    conv => lhs; whnf
noncomputable abbrev b_78 : List Stmt := by
  refine (fun (x : List Stmt) (_ : bOf (inCls (stAt 7) 0) = x) => x) ?b ?h
  case h =>
    conv => lhs; whnf
noncomputable abbrev s_78 : Scope := by
  refine (fun (x : Scope) (_ : sOf (inCls (stAt 7) 0) = x) => x) ?b ?h
  case h =>
    conv => lhs; whnf
noncomputable abbrev o_78 (P : Params) : Obj := ⟨(.type "function"), none, (.func ⟨(.ofString "__init__"), (.ofString "FileSpec.__init__"), p_78, .stmts b_78, s_78, 3, [], .none, .none, .none, (.str (.ofString "ledgerspeak.envread") 252), none, (.ref 77), .none, 0⟩), #[]⟩
noncomputable abbrev o_84 (P : Params) : Obj := ⟨(.type "code"), none, (.fields #[(.str (.ofString "told") 282), (.str (.ofString "FileSpec.told") 283), (.str (.ofString "/claim/cut.py") 284), (.int 33 0), (.int 1 0), (.int 0 0), (.int 0 0), (.int 3 0), (.ref 79), (.bool true), (.int 181 0), (.ref 80), .none, (.ref 81), (.ref 82), (.ref 83), (.int 287 0), (.int 33 0), (.str (.ofString "/claim/cut.py") 288)]), #[]⟩
noncomputable abbrev p_85 : Arguments := by
  refine (fun (x : Arguments) (_ : pOf (inCls (stAt 7) 1) = x) => x) ?b ?h
  case h =>
    conv => lhs; whnf
noncomputable abbrev b_85 : List Stmt := by
  refine (fun (x : List Stmt) (_ : bOf (inCls (stAt 7) 1) = x) => x) ?b ?h
  case h =>
    conv => lhs; whnf
noncomputable abbrev s_85 : Scope := by
  refine (fun (x : Scope) (_ : sOf (inCls (stAt 7) 1) = x) => x) ?b ?h
  case h =>
    conv => lhs; whnf
noncomputable abbrev o_85 (P : Params) : Obj := ⟨(.type "function"), none, (.func ⟨(.ofString "told"), (.ofString "FileSpec.told"), p_85, .stmts b_85, s_85, 3, [], .none, .none, .none, (.str (.ofString "ledgerspeak.envread") 252), none, (.ref 84), .none, 0⟩), #[]⟩
noncomputable abbrev o_87 (P : Params) : Obj := ⟨(.type "dict"), none, (.dict (List.toArray [⟨PyData.keyHash P (.ofString "__module__"), (.str (.ofString "__module__") 269), (.str (.ofString "ledgerspeak.envread") 252)⟩, ⟨PyData.keyHash P (.ofString "__firstlineno__"), (.str (.ofString "__firstlineno__") 273), (.int 19 272)⟩, ⟨PyData.keyHash P (.ofString "__init__"), (.str (.ofString "__init__") 281), (.ref 78)⟩, ⟨PyData.keyHash P (.ofString "told"), (.str (.ofString "told") 289), (.ref 85)⟩, ⟨PyData.keyHash P (.ofString "__static_attributes__"), (.str (.ofString "__static_attributes__") 300), (.ref 86)⟩, ⟨PyData.keyHash P (.ofString "__dict__"), (.str (.ofString "__dict__") 302), (.ref 89)⟩, ⟨PyData.keyHash P (.ofString "__weakref__"), (.str (.ofString "__weakref__") 304), (.ref 90)⟩, ⟨PyData.keyHash P (.ofString "__doc__"), (.str (.ofString "__doc__") 305), .none⟩]) 4), #[]⟩
noncomputable abbrev o_88 (P : Params) : Obj := ⟨(.type "type"), none, (.cls ⟨(.ofString "FileSpec"), [(.type "object")], [(.ref 88), (.type "object")], 87, (.ofString "FileSpec"), true, [], [], false, none, false⟩), #[none, none, (some (.str (.ofString "FileSpec") 262)), (some (.str (.ofString "FileSpec") 270)), (some (.builtin "object.__new__")), (some (.bool true))]⟩
noncomputable abbrev o_98 (P : Params) : Obj := ⟨(.type "code"), none, (.fields #[(.str (.ofString "one_word") 308), (.str (.ofString "one_word") 309), (.str (.ofString "/claim/cut.py") 310), (.int 36 0), (.int 2 0), (.int 0 0), (.int 0 0), (.int 3 0), (.ref 93), (.bool true), (.int 181 0), (.ref 94), .none, (.ref 95), (.ref 96), (.ref 97), (.int 314 0), (.int 36 0), (.str (.ofString "/claim/cut.py") 315)]), #[]⟩
noncomputable abbrev p_99 : Arguments := by
  refine (fun (x : Arguments) (_ : pOf (stAt 8) = x) => x) ?b ?h
  case h =>
    conv => lhs; whnf
noncomputable abbrev b_99 : List Stmt := by
  refine (fun (x : List Stmt) (_ : bOf (stAt 8) = x) => x) ?b ?h
  case h =>
    conv => lhs; whnf
noncomputable abbrev s_99 : Scope := by
  refine (fun (x : Scope) (_ : sOf (stAt 8) = x) => x) ?b ?h
  case h =>
    conv => lhs; whnf
noncomputable abbrev o_99 (P : Params) : Obj := ⟨(.type "function"), none, (.func ⟨(.ofString "one_word"), (.ofString "one_word"), p_99, .stmts b_99, s_99, 3, [], .none, .none, .none, (.str (.ofString "ledgerspeak.envread") 252), none, (.ref 98), .none, 0⟩), #[]⟩
noncomputable abbrev o_105 (P : Params) : Obj := ⟨(.type "code"), none, (.fields #[(.str (.ofString "read_assign") 317), (.str (.ofString "read_assign") 318), (.str (.ofString "/claim/cut.py") 319), (.int 41 0), (.int 2 0), (.int 0 0), (.int 0 0), (.int 3 0), (.ref 100), (.bool true), (.int 181 0), (.ref 101), .none, (.ref 102), (.ref 103), (.ref 104), (.int 322 0), (.int 41 0), (.str (.ofString "/claim/cut.py") 323)]), #[]⟩
noncomputable abbrev p_106 : Arguments := by
  refine (fun (x : Arguments) (_ : pOf (stAt 9) = x) => x) ?b ?h
  case h =>
    conv => lhs; whnf
noncomputable abbrev b_106 : List Stmt := by
  refine (fun (x : List Stmt) (_ : bOf (stAt 9) = x) => x) ?b ?h
  case h =>
    conv => lhs; whnf
noncomputable abbrev s_106 : Scope := by
  refine (fun (x : Scope) (_ : sOf (stAt 9) = x) => x) ?b ?h
  case h =>
    conv => lhs; whnf
noncomputable abbrev o_106 (P : Params) : Obj := ⟨(.type "function"), none, (.func ⟨(.ofString "read_assign"), (.ofString "read_assign"), p_106, .stmts b_106, s_106, 3, [], .none, .none, .none, (.str (.ofString "ledgerspeak.envread") 252), none, (.ref 105), .none, 0⟩), #[]⟩
noncomputable abbrev o_112 (P : Params) : Obj := ⟨(.type "code"), none, (.fields #[(.str (.ofString "read_record_key") 325), (.str (.ofString "read_record_key") 326), (.str (.ofString "/claim/cut.py") 327), (.int 46 0), (.int 2 0), (.int 0 0), (.int 0 0), (.int 3 0), (.ref 107), (.bool true), (.int 181 0), (.ref 108), .none, (.ref 109), (.ref 110), (.ref 111), (.int 330 0), (.int 46 0), (.str (.ofString "/claim/cut.py") 331)]), #[]⟩
noncomputable abbrev p_113 : Arguments := by
  refine (fun (x : Arguments) (_ : pOf (stAt 10) = x) => x) ?b ?h
  case h =>
    conv => lhs; whnf
noncomputable abbrev b_113 : List Stmt := by
  refine (fun (x : List Stmt) (_ : bOf (stAt 10) = x) => x) ?b ?h
  case h =>
    conv => lhs; whnf
noncomputable abbrev s_113 : Scope := by
  refine (fun (x : Scope) (_ : sOf (stAt 10) = x) => x) ?b ?h
  case h =>
    conv => lhs; whnf
noncomputable abbrev o_113 (P : Params) : Obj := ⟨(.type "function"), none, (.func ⟨(.ofString "read_record_key"), (.ofString "read_record_key"), p_113, .stmts b_113, s_113, 3, [], .none, .none, .none, (.str (.ofString "ledgerspeak.envread") 252), none, (.ref 112), .none, 0⟩), #[]⟩
noncomputable abbrev o_117 (P : Params) : Obj := ⟨(.type "code"), none, (.fields #[(.str (.ofString "read_alternate") 333), (.str (.ofString "read_alternate") 334), (.str (.ofString "/claim/cut.py") 335), (.int 50 0), (.int 2 0), (.int 0 0), (.int 0 0), (.int 3 0), (.ref 114), (.bool true), (.int 181 0), (.ref 115), .none, .none, .none, (.ref 116), (.int 336 0), (.int 50 0), (.str (.ofString "/claim/cut.py") 337)]), #[]⟩
noncomputable abbrev p_118 : Arguments := by
  refine (fun (x : Arguments) (_ : pOf (stAt 11) = x) => x) ?b ?h
  case h =>
    conv => lhs; whnf
noncomputable abbrev b_118 : List Stmt := by
  refine (fun (x : List Stmt) (_ : bOf (stAt 11) = x) => x) ?b ?h
  case h =>
    conv => lhs; whnf
noncomputable abbrev s_118 : Scope := by
  refine (fun (x : Scope) (_ : sOf (stAt 11) = x) => x) ?b ?h
  case h =>
    conv => lhs; whnf
noncomputable abbrev o_118 (P : Params) : Obj := ⟨(.type "function"), none, (.func ⟨(.ofString "read_alternate"), (.ofString "read_alternate"), p_118, .stmts b_118, s_118, 3, [], .none, .none, .none, (.str (.ofString "ledgerspeak.envread") 252), none, (.ref 117), .none, 0⟩), #[]⟩
noncomputable abbrev o_124 (P : Params) : Obj := ⟨(.type "code"), none, (.fields #[(.str (.ofString "read_relative") 339), (.str (.ofString "read_relative") 340), (.str (.ofString "/claim/cut.py") 341), (.int 59 0), (.int 2 0), (.int 0 0), (.int 0 0), (.int 3 0), (.ref 119), (.bool true), (.int 181 0), (.ref 120), .none, (.ref 121), (.ref 122), (.ref 123), (.int 344 0), (.int 59 0), (.str (.ofString "/claim/cut.py") 345)]), #[]⟩
noncomputable abbrev p_125 : Arguments := by
  refine (fun (x : Arguments) (_ : pOf (stAt 12) = x) => x) ?b ?h
  case h =>
    conv => lhs; whnf
noncomputable abbrev b_125 : List Stmt := by
  refine (fun (x : List Stmt) (_ : bOf (stAt 12) = x) => x) ?b ?h
  case h =>
    conv => lhs; whnf
noncomputable abbrev s_125 : Scope := by
  refine (fun (x : Scope) (_ : sOf (stAt 12) = x) => x) ?b ?h
  case h =>
    conv => lhs; whnf
noncomputable abbrev o_125 (P : Params) : Obj := ⟨(.type "function"), none, (.func ⟨(.ofString "read_relative"), (.ofString "read_relative"), p_125, .stmts b_125, s_125, 3, [], .none, .none, .none, (.str (.ofString "ledgerspeak.envread") 252), none, (.ref 124), .none, 0⟩), #[]⟩
noncomputable abbrev o_131 (P : Params) : Obj := ⟨(.type "code"), none, (.fields #[(.str (.ofString "read_clause") 347), (.str (.ofString "read_clause") 348), (.str (.ofString "/claim/cut.py") 349), (.int 69 0), (.int 2 0), (.int 0 0), (.int 0 0), (.int 3 0), (.ref 126), (.bool true), (.int 181 0), (.ref 127), .none, (.ref 128), (.ref 129), (.ref 130), (.int 352 0), (.int 69 0), (.str (.ofString "/claim/cut.py") 353)]), #[]⟩
noncomputable abbrev p_132 : Arguments := by
  refine (fun (x : Arguments) (_ : pOf (stAt 13) = x) => x) ?b ?h
  case h =>
    conv => lhs; whnf
noncomputable abbrev b_132 : List Stmt := by
  refine (fun (x : List Stmt) (_ : bOf (stAt 13) = x) => x) ?b ?h
  case h =>
    conv => lhs; whnf
noncomputable abbrev s_132 : Scope := by
  refine (fun (x : Scope) (_ : sOf (stAt 13) = x) => x) ?b ?h
  case h =>
    conv => lhs; whnf
noncomputable abbrev o_132 (P : Params) : Obj := ⟨(.type "function"), none, (.func ⟨(.ofString "read_clause"), (.ofString "read_clause"), p_132, .stmts b_132, s_132, 3, [], .none, .none, .none, (.str (.ofString "ledgerspeak.envread") 252), none, (.ref 131), .none, 0⟩), #[]⟩
noncomputable abbrev o_138 (P : Params) : Obj := ⟨(.type "code"), none, (.fields #[(.str (.ofString "is_whole_spec") 355), (.str (.ofString "is_whole_spec") 356), (.str (.ofString "/claim/cut.py") 357), (.int 95 0), (.int 1 0), (.int 0 0), (.int 0 0), (.int 3 0), (.ref 133), (.bool true), (.int 181 0), (.ref 134), .none, (.ref 135), (.ref 136), (.ref 137), (.int 359 0), (.int 95 0), (.str (.ofString "/claim/cut.py") 360)]), #[]⟩
noncomputable abbrev p_139 : Arguments := by
  refine (fun (x : Arguments) (_ : pOf (stAt 14) = x) => x) ?b ?h
  case h =>
    conv => lhs; whnf
noncomputable abbrev b_139 : List Stmt := by
  refine (fun (x : List Stmt) (_ : bOf (stAt 14) = x) => x) ?b ?h
  case h =>
    conv => lhs; whnf
noncomputable abbrev s_139 : Scope := by
  refine (fun (x : Scope) (_ : sOf (stAt 14) = x) => x) ?b ?h
  case h =>
    conv => lhs; whnf
noncomputable abbrev o_139 (P : Params) : Obj := ⟨(.type "function"), none, (.func ⟨(.ofString "is_whole_spec"), (.ofString "is_whole_spec"), p_139, .stmts b_139, s_139, 3, [], .none, .none, .none, (.str (.ofString "ledgerspeak.envread") 252), none, (.ref 138), .none, 0⟩), #[]⟩
noncomputable abbrev o_145 (P : Params) : Obj := ⟨(.type "code"), none, (.fields #[(.str (.ofString "read_select") 362), (.str (.ofString "read_select") 363), (.str (.ofString "/claim/cut.py") 364), (.int 103 0), (.int 1 0), (.int 0 0), (.int 0 0), (.int 3 0), (.ref 140), (.bool true), (.int 181 0), (.ref 141), .none, (.ref 142), (.ref 143), (.ref 144), (.int 371 0), (.int 103 0), (.str (.ofString "/claim/cut.py") 372)]), #[]⟩
noncomputable abbrev p_146 : Arguments := by
  refine (fun (x : Arguments) (_ : pOf (stAt 15) = x) => x) ?b ?h
  case h =>
    conv => lhs; whnf
noncomputable abbrev b_146 : List Stmt := by
  refine (fun (x : List Stmt) (_ : bOf (stAt 15) = x) => x) ?b ?h
  case h =>
    conv => lhs; whnf
noncomputable abbrev s_146 : Scope := by
  refine (fun (x : Scope) (_ : sOf (stAt 15) = x) => x) ?b ?h
  case h =>
    conv => lhs; whnf
noncomputable abbrev o_146 (P : Params) : Obj := ⟨(.type "function"), none, (.func ⟨(.ofString "read_select"), (.ofString "read_select"), p_146, .stmts b_146, s_146, 3, [], .none, .none, .none, (.str (.ofString "ledgerspeak.envread") 252), none, (.ref 145), .none, 0⟩), #[]⟩
noncomputable abbrev o_152 (P : Params) : Obj := ⟨(.type "code"), none, (.fields #[(.str (.ofString "is_behind") 374), (.str (.ofString "is_behind") 375), (.str (.ofString "/claim/cut.py") 376), (.int 119 0), (.int 1 0), (.int 0 0), (.int 0 0), (.int 3 0), (.ref 147), (.bool true), (.int 181 0), (.ref 148), .none, (.ref 149), (.ref 150), (.ref 151), (.int 378 0), (.int 119 0), (.str (.ofString "/claim/cut.py") 379)]), #[]⟩
noncomputable abbrev p_153 : Arguments := by
  refine (fun (x : Arguments) (_ : pOf (stAt 16) = x) => x) ?b ?h
  case h =>
    conv => lhs; whnf
noncomputable abbrev b_153 : List Stmt := by
  refine (fun (x : List Stmt) (_ : bOf (stAt 16) = x) => x) ?b ?h
  case h =>
    conv => lhs; whnf
noncomputable abbrev s_153 : Scope := by
  refine (fun (x : Scope) (_ : sOf (stAt 16) = x) => x) ?b ?h
  case h =>
    conv => lhs; whnf
noncomputable abbrev o_153 (P : Params) : Obj := ⟨(.type "function"), none, (.func ⟨(.ofString "is_behind"), (.ofString "is_behind"), p_153, .stmts b_153, s_153, 3, [], .none, .none, .none, (.str (.ofString "ledgerspeak.envread") 252), none, (.ref 152), .none, 0⟩), #[]⟩
noncomputable abbrev o_159 (P : Params) : Obj := ⟨(.type "code"), none, (.fields #[(.str (.ofString "pass_configuration") 381), (.str (.ofString "pass_configuration") 382), (.str (.ofString "/claim/cut.py") 383), (.int 121 0), (.int 1 0), (.int 0 0), (.int 0 0), (.int 3 0), (.ref 154), (.bool true), (.int 181 0), (.ref 155), .none, (.ref 156), (.ref 157), (.ref 158), (.int 385 0), (.int 121 0), (.str (.ofString "/claim/cut.py") 386)]), #[]⟩
noncomputable abbrev p_160 : Arguments := by
  refine (fun (x : Arguments) (_ : pOf (stAt 17) = x) => x) ?b ?h
  case h =>
    conv => lhs; whnf
noncomputable abbrev b_160 : List Stmt := by
  refine (fun (x : List Stmt) (_ : bOf (stAt 17) = x) => x) ?b ?h
  case h =>
    conv => lhs; whnf
noncomputable abbrev s_160 : Scope := by
  refine (fun (x : Scope) (_ : sOf (stAt 17) = x) => x) ?b ?h
  case h =>
    conv => lhs; whnf
noncomputable abbrev o_160 (P : Params) : Obj := ⟨(.type "function"), none, (.func ⟨(.ofString "pass_configuration"), (.ofString "pass_configuration"), p_160, .stmts b_160, s_160, 3, [], .none, .none, .none, (.str (.ofString "ledgerspeak.envread") 252), none, (.ref 159), .none, 0⟩), #[]⟩
noncomputable abbrev o_166 (P : Params) : Obj := ⟨(.type "code"), none, (.fields #[(.str (.ofString "read_environment") 388), (.str (.ofString "read_environment") 389), (.str (.ofString "/claim/cut.py") 390), (.int 127 0), (.int 1 0), (.int 0 0), (.int 0 0), (.int 3 0), (.ref 161), (.bool true), (.int 181 0), (.ref 162), .none, (.ref 163), (.ref 164), (.ref 165), (.int 395 0), (.int 127 0), (.str (.ofString "/claim/cut.py") 396)]), #[]⟩
noncomputable abbrev p_167 : Arguments := by
  refine (fun (x : Arguments) (_ : pOf (stAt 18) = x) => x) ?b ?h
  case h =>
    conv => lhs; whnf
noncomputable abbrev b_167 : List Stmt := by
  refine (fun (x : List Stmt) (_ : bOf (stAt 18) = x) => x) ?b ?h
  case h =>
    conv => lhs; whnf
noncomputable abbrev s_167 : Scope := by
  refine (fun (x : Scope) (_ : sOf (stAt 18) = x) => x) ?b ?h
  case h =>
    conv => lhs; whnf
noncomputable abbrev o_167 (P : Params) : Obj := ⟨(.type "function"), none, (.func ⟨(.ofString "read_environment"), (.ofString "read_environment"), p_167, .stmts b_167, s_167, 3, [], .none, .none, .none, (.str (.ofString "ledgerspeak.envread") 252), none, (.ref 166), .none, 0⟩), #[]⟩
noncomputable abbrev o_173 (P : Params) : Obj := ⟨(.type "code"), none, (.fields #[(.str (.ofString "is_reserved") 402), (.str (.ofString "is_reserved") 403), (.str (.ofString "/claim/cut.py") 404), (.int 152 0), (.int 1 0), (.int 0 0), (.int 0 0), (.int 3 0), (.ref 168), (.bool true), (.int 181 0), (.ref 169), .none, (.ref 170), (.ref 171), (.ref 172), (.int 406 0), (.int 152 0), (.str (.ofString "/claim/cut.py") 407)]), #[]⟩
noncomputable abbrev p_174 : Arguments := by
  refine (fun (x : Arguments) (_ : pOf (stAt 21) = x) => x) ?b ?h
  case h =>
    conv => lhs; whnf
noncomputable abbrev b_174 : List Stmt := by
  refine (fun (x : List Stmt) (_ : bOf (stAt 21) = x) => x) ?b ?h
  case h =>
    conv => lhs; whnf
noncomputable abbrev s_174 : Scope := by
  refine (fun (x : Scope) (_ : sOf (stAt 21) = x) => x) ?b ?h
  case h =>
    conv => lhs; whnf
noncomputable abbrev o_174 (P : Params) : Obj := ⟨(.type "function"), none, (.func ⟨(.ofString "is_reserved"), (.ofString "is_reserved"), p_174, .stmts b_174, s_174, 3, [], .none, .none, .none, (.str (.ofString "ledgerspeak.reader") 398), none, (.ref 173), .none, 0⟩), #[]⟩
noncomputable abbrev o_182 (P : Params) : Obj := ⟨(.type "tuple"), none, (.seq #[(.int 0 421)] 0), #[]⟩
noncomputable abbrev o_188 (P : Params) : Obj := ⟨(.type "code"), none, (.fields #[(.str (.ofString "__init__") 422), (.str (.ofString "Reader.__init__") 423), (.str (.ofString "/claim/cut.py") 424), (.int 156 0), (.int 3 0), (.int 0 0), (.int 0 0), (.int 3 0), (.ref 183), (.bool true), (.int 181 0), (.ref 184), .none, (.ref 185), (.ref 186), (.ref 187), (.int 428 0), (.int 156 0), (.str (.ofString "/claim/cut.py") 429)]), #[]⟩
noncomputable abbrev p_189 : Arguments := by
  refine (fun (x : Arguments) (_ : pOf (inCls (stAt 22) 0) = x) => x) ?b ?h
  case h =>
    conv => lhs; whnf
noncomputable abbrev b_189 : List Stmt := by
  refine (fun (x : List Stmt) (_ : bOf (inCls (stAt 22) 0) = x) => x) ?b ?h
  case h =>
    conv => lhs; whnf
noncomputable abbrev s_189 : Scope := by
  refine (fun (x : Scope) (_ : sOf (inCls (stAt 22) 0) = x) => x) ?b ?h
  case h =>
    conv => lhs; whnf
noncomputable abbrev o_189 (P : Params) : Obj := ⟨(.type "function"), none, (.func ⟨(.ofString "__init__"), (.ofString "Reader.__init__"), p_189, .stmts b_189, s_189, 3, [], (.ref 182), .none, .none, (.str (.ofString "ledgerspeak.reader") 398), none, (.ref 188), .none, 0⟩), #[]⟩
noncomputable abbrev o_190 (P : Params) : Obj := ⟨(.type "tuple"), none, (.seq #[(.int 0 431)] 0), #[]⟩
noncomputable abbrev o_196 (P : Params) : Obj := ⟨(.type "code"), none, (.fields #[(.str (.ofString "peek") 432), (.str (.ofString "Reader.peek") 433), (.str (.ofString "/claim/cut.py") 434), (.int 161 0), (.int 2 0), (.int 0 0), (.int 0 0), (.int 3 0), (.ref 191), (.bool true), (.int 181 0), (.ref 192), .none, (.ref 193), (.ref 194), (.ref 195), (.int 437 0), (.int 161 0), (.str (.ofString "/claim/cut.py") 438)]), #[]⟩
noncomputable abbrev p_197 : Arguments := by
  refine (fun (x : Arguments) (_ : pOf (inCls (stAt 22) 1) = x) => x) ?b ?h
  case h =>
    conv => lhs; whnf
noncomputable abbrev b_197 : List Stmt := by
  refine (fun (x : List Stmt) (_ : bOf (inCls (stAt 22) 1) = x) => x) ?b ?h
  case h =>
    conv => lhs; whnf
noncomputable abbrev s_197 : Scope := by
  refine (fun (x : Scope) (_ : sOf (inCls (stAt 22) 1) = x) => x) ?b ?h
  case h =>
    conv => lhs; whnf
noncomputable abbrev o_197 (P : Params) : Obj := ⟨(.type "function"), none, (.func ⟨(.ofString "peek"), (.ofString "Reader.peek"), p_197, .stmts b_197, s_197, 3, [], (.ref 190), .none, .none, (.str (.ofString "ledgerspeak.reader") 398), none, (.ref 196), .none, 0⟩), #[]⟩
noncomputable abbrev o_203 (P : Params) : Obj := ⟨(.type "code"), none, (.fields #[(.str (.ofString "is_done") 440), (.str (.ofString "Reader.is_done") 441), (.str (.ofString "/claim/cut.py") 442), (.int 166 0), (.int 1 0), (.int 0 0), (.int 0 0), (.int 3 0), (.ref 198), (.bool true), (.int 181 0), (.ref 199), .none, (.ref 200), (.ref 201), (.ref 202), (.int 444 0), (.int 166 0), (.str (.ofString "/claim/cut.py") 445)]), #[]⟩
noncomputable abbrev p_204 : Arguments := by
  refine (fun (x : Arguments) (_ : pOf (inCls (stAt 22) 2) = x) => x) ?b ?h
  case h =>
    conv => lhs; whnf
noncomputable abbrev b_204 : List Stmt := by
  refine (fun (x : List Stmt) (_ : bOf (inCls (stAt 22) 2) = x) => x) ?b ?h
  case h =>
    conv => lhs; whnf
noncomputable abbrev s_204 : Scope := by
  refine (fun (x : Scope) (_ : sOf (inCls (stAt 22) 2) = x) => x) ?b ?h
  case h =>
    conv => lhs; whnf
noncomputable abbrev o_204 (P : Params) : Obj := ⟨(.type "function"), none, (.func ⟨(.ofString "is_done"), (.ofString "Reader.is_done"), p_204, .stmts b_204, s_204, 3, [], .none, .none, .none, (.str (.ofString "ledgerspeak.reader") 398), none, (.ref 203), .none, 0⟩), #[]⟩
noncomputable abbrev o_210 (P : Params) : Obj := ⟨(.type "code"), none, (.fields #[(.str (.ofString "fault") 447), (.str (.ofString "Reader.fault") 448), (.str (.ofString "/claim/cut.py") 449), (.int 169 0), (.int 2 0), (.int 0 0), (.int 0 0), (.int 3 0), (.ref 205), (.bool true), (.int 181 0), (.ref 206), .none, (.ref 207), (.ref 208), (.ref 209), (.int 452 0), (.int 169 0), (.str (.ofString "/claim/cut.py") 453)]), #[]⟩
noncomputable abbrev p_211 : Arguments := by
  refine (fun (x : Arguments) (_ : pOf (inCls (stAt 22) 3) = x) => x) ?b ?h
  case h =>
    conv => lhs; whnf
noncomputable abbrev b_211 : List Stmt := by
  refine (fun (x : List Stmt) (_ : bOf (inCls (stAt 22) 3) = x) => x) ?b ?h
  case h =>
    conv => lhs; whnf
noncomputable abbrev s_211 : Scope := by
  refine (fun (x : Scope) (_ : sOf (inCls (stAt 22) 3) = x) => x) ?b ?h
  case h =>
    conv => lhs; whnf
noncomputable abbrev o_211 (P : Params) : Obj := ⟨(.type "function"), none, (.func ⟨(.ofString "fault"), (.ofString "Reader.fault"), p_211, .stmts b_211, s_211, 3, [], .none, .none, .none, (.str (.ofString "ledgerspeak.reader") 398), none, (.ref 210), .none, 0⟩), #[]⟩
noncomputable abbrev o_217 (P : Params) : Obj := ⟨(.type "code"), none, (.fields #[(.str (.ofString "take") 455), (.str (.ofString "Reader.take") 456), (.str (.ofString "/claim/cut.py") 457), (.int 174 0), (.int 1 0), (.int 0 0), (.int 0 0), (.int 3 0), (.ref 212), (.bool true), (.int 181 0), (.ref 213), .none, (.ref 214), (.ref 215), (.ref 216), (.int 460 0), (.int 174 0), (.str (.ofString "/claim/cut.py") 461)]), #[]⟩
noncomputable abbrev p_218 : Arguments := by
  refine (fun (x : Arguments) (_ : pOf (inCls (stAt 22) 4) = x) => x) ?b ?h
  case h =>
    conv => lhs; whnf
noncomputable abbrev b_218 : List Stmt := by
  refine (fun (x : List Stmt) (_ : bOf (inCls (stAt 22) 4) = x) => x) ?b ?h
  case h =>
    conv => lhs; whnf
noncomputable abbrev s_218 : Scope := by
  refine (fun (x : Scope) (_ : sOf (inCls (stAt 22) 4) = x) => x) ?b ?h
  case h =>
    conv => lhs; whnf
noncomputable abbrev o_218 (P : Params) : Obj := ⟨(.type "function"), none, (.func ⟨(.ofString "take"), (.ofString "Reader.take"), p_218, .stmts b_218, s_218, 3, [], .none, .none, .none, (.str (.ofString "ledgerspeak.reader") 398), none, (.ref 217), .none, 0⟩), #[]⟩
noncomputable abbrev o_219 (P : Params) : Obj := ⟨(.type "tuple"), none, (.seq #[(.int 0 463)] 0), #[]⟩
noncomputable abbrev o_225 (P : Params) : Obj := ⟨(.type "code"), none, (.fields #[(.str (.ofString "is_kind") 464), (.str (.ofString "Reader.is_kind") 465), (.str (.ofString "/claim/cut.py") 466), (.int 181 0), (.int 3 0), (.int 0 0), (.int 0 0), (.int 3 0), (.ref 220), (.bool true), (.int 181 0), (.ref 221), .none, (.ref 222), (.ref 223), (.ref 224), (.int 471 0), (.int 181 0), (.str (.ofString "/claim/cut.py") 472)]), #[]⟩
noncomputable abbrev p_226 : Arguments := by
  refine (fun (x : Arguments) (_ : pOf (inCls (stAt 22) 5) = x) => x) ?b ?h
  case h =>
    conv => lhs; whnf
noncomputable abbrev b_226 : List Stmt := by
  refine (fun (x : List Stmt) (_ : bOf (inCls (stAt 22) 5) = x) => x) ?b ?h
  case h =>
    conv => lhs; whnf
noncomputable abbrev s_226 : Scope := by
  refine (fun (x : Scope) (_ : sOf (inCls (stAt 22) 5) = x) => x) ?b ?h
  case h =>
    conv => lhs; whnf
noncomputable abbrev o_226 (P : Params) : Obj := ⟨(.type "function"), none, (.func ⟨(.ofString "is_kind"), (.ofString "Reader.is_kind"), p_226, .stmts b_226, s_226, 3, [], (.ref 219), .none, .none, (.str (.ofString "ledgerspeak.reader") 398), none, (.ref 225), .none, 0⟩), #[]⟩
noncomputable abbrev o_232 (P : Params) : Obj := ⟨(.type "code"), none, (.fields #[(.str (.ofString "is_word") 474), (.str (.ofString "Reader.is_word") 475), (.str (.ofString "/claim/cut.py") 476), (.int 185 0), (.int 2 0), (.int 0 0), (.int 0 0), (.int 3 0), (.ref 227), (.bool true), (.int 181 0), (.ref 228), .none, (.ref 229), (.ref 230), (.ref 231), (.int 481 0), (.int 185 0), (.str (.ofString "/claim/cut.py") 482)]), #[]⟩
noncomputable abbrev p_233 : Arguments := by
  refine (fun (x : Arguments) (_ : pOf (inCls (stAt 22) 6) = x) => x) ?b ?h
  case h =>
    conv => lhs; whnf
noncomputable abbrev b_233 : List Stmt := by
  refine (fun (x : List Stmt) (_ : bOf (inCls (stAt 22) 6) = x) => x) ?b ?h
  case h =>
    conv => lhs; whnf
noncomputable abbrev s_233 : Scope := by
  refine (fun (x : Scope) (_ : sOf (inCls (stAt 22) 6) = x) => x) ?b ?h
  case h =>
    conv => lhs; whnf
noncomputable abbrev o_233 (P : Params) : Obj := ⟨(.type "function"), none, (.func ⟨(.ofString "is_word"), (.ofString "Reader.is_word"), p_233, .stmts b_233, s_233, 3, [], .none, .none, .none, (.str (.ofString "ledgerspeak.reader") 398), none, (.ref 232), .none, 0⟩), #[]⟩
noncomputable abbrev o_239 (P : Params) : Obj := ⟨(.type "code"), none, (.fields #[(.str (.ofString "skip") 484), (.str (.ofString "Reader.skip") 485), (.str (.ofString "/claim/cut.py") 486), (.int 193 0), (.int 2 0), (.int 0 0), (.int 0 0), (.int 3 0), (.ref 234), (.bool true), (.int 181 0), (.ref 235), .none, (.ref 236), (.ref 237), (.ref 238), (.int 489 0), (.int 193 0), (.str (.ofString "/claim/cut.py") 490)]), #[]⟩
noncomputable abbrev p_240 : Arguments := by
  refine (fun (x : Arguments) (_ : pOf (inCls (stAt 22) 7) = x) => x) ?b ?h
  case h =>
    conv => lhs; whnf
noncomputable abbrev b_240 : List Stmt := by
  refine (fun (x : List Stmt) (_ : bOf (inCls (stAt 22) 7) = x) => x) ?b ?h
  case h =>
    conv => lhs; whnf
noncomputable abbrev s_240 : Scope := by
  refine (fun (x : Scope) (_ : sOf (inCls (stAt 22) 7) = x) => x) ?b ?h
  case h =>
    conv => lhs; whnf
noncomputable abbrev o_240 (P : Params) : Obj := ⟨(.type "function"), none, (.func ⟨(.ofString "skip"), (.ofString "Reader.skip"), p_240, .stmts b_240, s_240, 3, [], .none, .none, .none, (.str (.ofString "ledgerspeak.reader") 398), none, (.ref 239), .none, 0⟩), #[]⟩
noncomputable abbrev o_246 (P : Params) : Obj := ⟨(.type "code"), none, (.fields #[(.str (.ofString "need") 492), (.str (.ofString "Reader.need") 493), (.str (.ofString "/claim/cut.py") 494), (.int 199 0), (.int 2 0), (.int 0 0), (.int 0 0), (.int 3 0), (.ref 241), (.bool true), (.int 181 0), (.ref 242), .none, (.ref 243), (.ref 244), (.ref 245), (.int 497 0), (.int 199 0), (.str (.ofString "/claim/cut.py") 498)]), #[]⟩
noncomputable abbrev p_247 : Arguments := by
  refine (fun (x : Arguments) (_ : pOf (inCls (stAt 22) 8) = x) => x) ?b ?h
  case h =>
    conv => lhs; whnf
noncomputable abbrev b_247 : List Stmt := by
  refine (fun (x : List Stmt) (_ : bOf (inCls (stAt 22) 8) = x) => x) ?b ?h
  case h =>
    conv => lhs; whnf
noncomputable abbrev s_247 : Scope := by
  refine (fun (x : Scope) (_ : sOf (inCls (stAt 22) 8) = x) => x) ?b ?h
  case h =>
    conv => lhs; whnf
noncomputable abbrev o_247 (P : Params) : Obj := ⟨(.type "function"), none, (.func ⟨(.ofString "need"), (.ofString "Reader.need"), p_247, .stmts b_247, s_247, 3, [], .none, .none, .none, (.str (.ofString "ledgerspeak.reader") 398), none, (.ref 246), .none, 0⟩), #[]⟩
noncomputable abbrev o_260 (P : Params) : Obj := ⟨(.type "code"), none, (.fields #[(.str (.ofString "word") 508), (.str (.ofString "Reader.word") 509), (.str (.ofString "/claim/cut.py") 510), (.int 206 0), (.int 1 0), (.int 0 0), (.int 0 0), (.int 3 0), (.ref 255), (.bool true), (.int 181 0), (.ref 256), .none, (.ref 257), (.ref 258), (.ref 259), (.int 512 0), (.int 206 0), (.str (.ofString "/claim/cut.py") 513)]), #[]⟩
noncomputable abbrev p_261 : Arguments := by
  refine (fun (x : Arguments) (_ : pOf (inCls (stAt 22) 10) = x) => x) ?b ?h
  case h =>
    conv => lhs; whnf
noncomputable abbrev b_261 : List Stmt := by
  refine (fun (x : List Stmt) (_ : bOf (inCls (stAt 22) 10) = x) => x) ?b ?h
  case h =>
    conv => lhs; whnf
noncomputable abbrev s_261 : Scope := by
  refine (fun (x : Scope) (_ : sOf (inCls (stAt 22) 10) = x) => x) ?b ?h
  case h =>
    conv => lhs; whnf
noncomputable abbrev o_261 (P : Params) : Obj := ⟨(.type "function"), none, (.func ⟨(.ofString "word"), (.ofString "Reader.word"), p_261, .stmts b_261, s_261, 3, [], .none, .none, .none, (.str (.ofString "ledgerspeak.reader") 398), none, (.ref 260), .none, 0⟩), #[]⟩
noncomputable abbrev o_262 (P : Params) : Obj := ⟨(.type "tuple"), none, (.seq #[(.int 0 515)] 0), #[]⟩
noncomputable abbrev o_268 (P : Params) : Obj := ⟨(.type "code"), none, (.fields #[(.str (.ofString "is_name") 516), (.str (.ofString "Reader.is_name") 517), (.str (.ofString "/claim/cut.py") 518), (.int 211 0), (.int 2 0), (.int 0 0), (.int 0 0), (.int 3 0), (.ref 263), (.bool true), (.int 181 0), (.ref 264), .none, (.ref 265), (.ref 266), (.ref 267), (.int 521 0), (.int 211 0), (.str (.ofString "/claim/cut.py") 522)]), #[]⟩
noncomputable abbrev p_269 : Arguments := by
  refine (fun (x : Arguments) (_ : pOf (inCls (stAt 22) 11) = x) => x) ?b ?h
  case h =>
    conv => lhs; whnf
noncomputable abbrev b_269 : List Stmt := by
  refine (fun (x : List Stmt) (_ : bOf (inCls (stAt 22) 11) = x) => x) ?b ?h
  case h =>
    conv => lhs; whnf
noncomputable abbrev s_269 : Scope := by
  refine (fun (x : Scope) (_ : sOf (inCls (stAt 22) 11) = x) => x) ?b ?h
  case h =>
    conv => lhs; whnf
noncomputable abbrev o_269 (P : Params) : Obj := ⟨(.type "function"), none, (.func ⟨(.ofString "is_name"), (.ofString "Reader.is_name"), p_269, .stmts b_269, s_269, 3, [], (.ref 262), .none, .none, (.str (.ofString "ledgerspeak.reader") 398), none, (.ref 268), .none, 0⟩), #[]⟩
noncomputable abbrev o_275 (P : Params) : Obj := ⟨(.type "code"), none, (.fields #[(.str (.ofString "name") 524), (.str (.ofString "Reader.name") 525), (.str (.ofString "/claim/cut.py") 526), (.int 214 0), (.int 1 0), (.int 0 0), (.int 0 0), (.int 3 0), (.ref 270), (.bool true), (.int 181 0), (.ref 271), .none, (.ref 272), (.ref 273), (.ref 274), (.int 528 0), (.int 214 0), (.str (.ofString "/claim/cut.py") 529)]), #[]⟩
noncomputable abbrev p_276 : Arguments := by
  refine (fun (x : Arguments) (_ : pOf (inCls (stAt 22) 12) = x) => x) ?b ?h
  case h =>
    conv => lhs; whnf
noncomputable abbrev b_276 : List Stmt := by
  refine (fun (x : List Stmt) (_ : bOf (inCls (stAt 22) 12) = x) => x) ?b ?h
  case h =>
    conv => lhs; whnf
noncomputable abbrev s_276 : Scope := by
  refine (fun (x : Scope) (_ : sOf (inCls (stAt 22) 12) = x) => x) ?b ?h
  case h =>
    conv => lhs; whnf
noncomputable abbrev o_276 (P : Params) : Obj := ⟨(.type "function"), none, (.func ⟨(.ofString "name"), (.ofString "Reader.name"), p_276, .stmts b_276, s_276, 3, [], .none, .none, .none, (.str (.ofString "ledgerspeak.reader") 398), none, (.ref 275), .none, 0⟩), #[]⟩
noncomputable abbrev o_284 (P : Params) : Obj := ⟨(.type "tuple"), none, (.seq #[(.int 0 539)] 0), #[]⟩
noncomputable abbrev o_290 (P : Params) : Obj := ⟨(.type "code"), none, (.fields #[(.str (.ofString "is_sign") 540), (.str (.ofString "Reader.is_sign") 541), (.str (.ofString "/claim/cut.py") 542), (.int 225 0), (.int 3 0), (.int 0 0), (.int 0 0), (.int 3 0), (.ref 285), (.bool true), (.int 181 0), (.ref 286), .none, (.ref 287), (.ref 288), (.ref 289), (.int 546 0), (.int 225 0), (.str (.ofString "/claim/cut.py") 547)]), #[]⟩
noncomputable abbrev p_291 : Arguments := by
  refine (fun (x : Arguments) (_ : pOf (inCls (stAt 22) 14) = x) => x) ?b ?h
  case h =>
    conv => lhs; whnf
noncomputable abbrev b_291 : List Stmt := by
  refine (fun (x : List Stmt) (_ : bOf (inCls (stAt 22) 14) = x) => x) ?b ?h
  case h =>
    conv => lhs; whnf
noncomputable abbrev s_291 : Scope := by
  refine (fun (x : Scope) (_ : sOf (inCls (stAt 22) 14) = x) => x) ?b ?h
  case h =>
    conv => lhs; whnf
noncomputable abbrev o_291 (P : Params) : Obj := ⟨(.type "function"), none, (.func ⟨(.ofString "is_sign"), (.ofString "Reader.is_sign"), p_291, .stmts b_291, s_291, 3, [], (.ref 284), .none, .none, (.str (.ofString "ledgerspeak.reader") 398), none, (.ref 290), .none, 0⟩), #[]⟩
noncomputable abbrev o_297 (P : Params) : Obj := ⟨(.type "code"), none, (.fields #[(.str (.ofString "skip_sign") 549), (.str (.ofString "Reader.skip_sign") 550), (.str (.ofString "/claim/cut.py") 551), (.int 228 0), (.int 2 0), (.int 0 0), (.int 0 0), (.int 3 0), (.ref 292), (.bool true), (.int 181 0), (.ref 293), .none, (.ref 294), (.ref 295), (.ref 296), (.int 554 0), (.int 228 0), (.str (.ofString "/claim/cut.py") 555)]), #[]⟩
noncomputable abbrev p_298 : Arguments := by
  refine (fun (x : Arguments) (_ : pOf (inCls (stAt 22) 15) = x) => x) ?b ?h
  case h =>
    conv => lhs; whnf
noncomputable abbrev b_298 : List Stmt := by
  refine (fun (x : List Stmt) (_ : bOf (inCls (stAt 22) 15) = x) => x) ?b ?h
  case h =>
    conv => lhs; whnf
noncomputable abbrev s_298 : Scope := by
  refine (fun (x : Scope) (_ : sOf (inCls (stAt 22) 15) = x) => x) ?b ?h
  case h =>
    conv => lhs; whnf
noncomputable abbrev o_298 (P : Params) : Obj := ⟨(.type "function"), none, (.func ⟨(.ofString "skip_sign"), (.ofString "Reader.skip_sign"), p_298, .stmts b_298, s_298, 3, [], .none, .none, .none, (.str (.ofString "ledgerspeak.reader") 398), none, (.ref 297), .none, 0⟩), #[]⟩
noncomputable abbrev o_304 (P : Params) : Obj := ⟨(.type "code"), none, (.fields #[(.str (.ofString "need_sign") 557), (.str (.ofString "Reader.need_sign") 558), (.str (.ofString "/claim/cut.py") 559), (.int 234 0), (.int 2 0), (.int 0 0), (.int 0 0), (.int 3 0), (.ref 299), (.bool true), (.int 181 0), (.ref 300), .none, (.ref 301), (.ref 302), (.ref 303), (.int 562 0), (.int 234 0), (.str (.ofString "/claim/cut.py") 563)]), #[]⟩
noncomputable abbrev p_305 : Arguments := by
  refine (fun (x : Arguments) (_ : pOf (inCls (stAt 22) 16) = x) => x) ?b ?h
  case h =>
    conv => lhs; whnf
noncomputable abbrev b_305 : List Stmt := by
  refine (fun (x : List Stmt) (_ : bOf (inCls (stAt 22) 16) = x) => x) ?b ?h
  case h =>
    conv => lhs; whnf
noncomputable abbrev s_305 : Scope := by
  refine (fun (x : Scope) (_ : sOf (inCls (stAt 22) 16) = x) => x) ?b ?h
  case h =>
    conv => lhs; whnf
noncomputable abbrev o_305 (P : Params) : Obj := ⟨(.type "function"), none, (.func ⟨(.ofString "need_sign"), (.ofString "Reader.need_sign"), p_305, .stmts b_305, s_305, 3, [], .none, .none, .none, (.str (.ofString "ledgerspeak.reader") 398), none, (.ref 304), .none, 0⟩), #[]⟩
noncomputable abbrev o_332 (P : Params) : Obj := ⟨(.type "code"), none, (.fields #[(.str (.ofString "literal") 586), (.str (.ofString "Reader.literal") 587), (.str (.ofString "/claim/cut.py") 588), (.int 247 0), (.int 1 0), (.int 0 0), (.int 0 0), (.int 3 0), (.ref 327), (.bool true), (.int 181 0), (.ref 328), .none, (.ref 329), (.ref 330), (.ref 331), (.int 590 0), (.int 247 0), (.str (.ofString "/claim/cut.py") 591)]), #[]⟩
noncomputable abbrev p_333 : Arguments := by
  refine (fun (x : Arguments) (_ : pOf (inCls (stAt 22) 20) = x) => x) ?b ?h
  case h =>
    conv => lhs; whnf
noncomputable abbrev b_333 : List Stmt := by
  refine (fun (x : List Stmt) (_ : bOf (inCls (stAt 22) 20) = x) => x) ?b ?h
  case h =>
    conv => lhs; whnf
noncomputable abbrev s_333 : Scope := by
  refine (fun (x : Scope) (_ : sOf (inCls (stAt 22) 20) = x) => x) ?b ?h
  case h =>
    conv => lhs; whnf
noncomputable abbrev o_333 (P : Params) : Obj := ⟨(.type "function"), none, (.func ⟨(.ofString "literal"), (.ofString "Reader.literal"), p_333, .stmts b_333, s_333, 3, [], .none, .none, .none, (.str (.ofString "ledgerspeak.reader") 398), none, (.ref 332), .none, 0⟩), #[]⟩
noncomputable abbrev o_342 (P : Params) : Obj := ⟨(.type "dict"), none, (.dict (List.toArray [⟨PyData.keyHash P (.ofString "__module__"), (.str (.ofString "__module__") 416), (.str (.ofString "ledgerspeak.reader") 398)⟩, ⟨PyData.keyHash P (.ofString "__firstlineno__"), (.str (.ofString "__firstlineno__") 420), (.int 154 419)⟩, ⟨PyData.keyHash P (.ofString "__init__"), (.str (.ofString "__init__") 430), (.ref 189)⟩, ⟨PyData.keyHash P (.ofString "peek"), (.str (.ofString "peek") 439), (.ref 197)⟩, ⟨PyData.keyHash P (.ofString "is_done"), (.str (.ofString "is_done") 446), (.ref 204)⟩, ⟨PyData.keyHash P (.ofString "fault"), (.str (.ofString "fault") 454), (.ref 211)⟩, ⟨PyData.keyHash P (.ofString "take"), (.str (.ofString "take") 462), (.ref 218)⟩, ⟨PyData.keyHash P (.ofString "is_kind"), (.str (.ofString "is_kind") 473), (.ref 226)⟩, ⟨PyData.keyHash P (.ofString "is_word"), (.str (.ofString "is_word") 483), (.ref 233)⟩, ⟨PyData.keyHash P (.ofString "skip"), (.str (.ofString "skip") 491), (.ref 240)⟩, ⟨PyData.keyHash P (.ofString "need"), (.str (.ofString "need") 499), (.ref 247)⟩, ⟨PyData.keyHash P (.ofString "one_of"), (.str (.ofString "one_of") 507), (.ref 254)⟩, ⟨PyData.keyHash P (.ofString "word"), (.str (.ofString "word") 514), (.ref 261)⟩, ⟨PyData.keyHash P (.ofString "is_name"), (.str (.ofString "is_name") 523), (.ref 269)⟩, ⟨PyData.keyHash P (.ofString "name"), (.str (.ofString "name") 530), (.ref 276)⟩, ⟨PyData.keyHash P (.ofString "names"), (.str (.ofString "names") 538), (.ref 283)⟩, ⟨PyData.keyHash P (.ofString "is_sign"), (.str (.ofString "is_sign") 548), (.ref 291)⟩, ⟨PyData.keyHash P (.ofString "skip_sign"), (.str (.ofString "skip_sign") 556), (.ref 298)⟩, ⟨PyData.keyHash P (.ofString "need_sign"), (.str (.ofString "need_sign") 564), (.ref 305)⟩, ⟨PyData.keyHash P (.ofString "is_number"), (.str (.ofString "is_number") 571), (.ref 312)⟩, ⟨PyData.keyHash P (.ofString "signed"), (.str (.ofString "signed") 578), (.ref 319)⟩, ⟨PyData.keyHash P (.ofString "whole"), (.str (.ofString "whole") 585), (.ref 326)⟩, ⟨PyData.keyHash P (.ofString "literal"), (.str (.ofString "literal") 592), (.ref 333)⟩, ⟨PyData.keyHash P (.ofString "octets"), (.str (.ofString "octets") 599), (.ref 340)⟩, ⟨PyData.keyHash P (.ofString "__static_attributes__"), (.str (.ofString "__static_attributes__") 603), (.ref 341)⟩, ⟨PyData.keyHash P (.ofString "__dict__"), (.str (.ofString "__dict__") 605), (.ref 344)⟩, ⟨PyData.keyHash P (.ofString "__weakref__"), (.str (.ofString "__weakref__") 607), (.ref 345)⟩, ⟨PyData.keyHash P (.ofString "__doc__"), (.str (.ofString "__doc__") 608), .none⟩]) 4), #[]⟩
noncomputable abbrev o_343 (P : Params) : Obj := ⟨(.type "type"), none, (.cls ⟨(.ofString "Reader"), [(.type "object")], [(.ref 343), (.type "object")], 342, (.ofString "Reader"), true, [], [], false, none, false⟩), #[none, none, (some (.str (.ofString "Reader") 409)), (some (.str (.ofString "Reader") 417)), (some (.builtin "object.__new__")), (some (.bool true))]⟩
noncomputable abbrev o_355 (P : Params) : Obj := ⟨(.type "tuple"), none, (.seq #[(.int 0 625), (.int 0 626)] 0), #[]⟩
noncomputable abbrev o_356 (P : Params) : Obj := ⟨(.type "tuple"), none, (.seq #[(.ref 355), (.bool false)] 0), #[]⟩
noncomputable abbrev o_362 (P : Params) : Obj := ⟨(.type "code"), none, (.fields #[(.str (.ofString "__init__") 627), (.str (.ofString "Token.__init__") 628), (.str (.ofString "/claim/cut.py") 629), (.int 257 0), (.int 5 0), (.int 0 0), (.int 0 0), (.int 3 0), (.ref 357), (.bool true), (.int 181 0), (.ref 358), .none, (.ref 359), (.ref 360), (.ref 361), (.int 635 0), (.int 257 0), (.str (.ofString "/claim/cut.py") 636)]), #[]⟩
noncomputable abbrev p_363 : Arguments := by
  refine (fun (x : Arguments) (_ : pOf (inCls (stAt 24) 0) = x) => x) ?b ?h
  case h =>
    conv => lhs; whnf
noncomputable abbrev b_363 : List Stmt := by
  refine (fun (x : List Stmt) (_ : bOf (inCls (stAt 24) 0) = x) => x) ?b ?h
  case h =>
    conv => lhs; whnf
noncomputable abbrev s_363 : Scope := by
  refine (fun (x : Scope) (_ : sOf (inCls (stAt 24) 0) = x) => x) ?b ?h
  case h =>
    conv => lhs; whnf
noncomputable abbrev o_363 (P : Params) : Obj := ⟨(.type "function"), none, (.func ⟨(.ofString "__init__"), (.ofString "Token.__init__"), p_363, .stmts b_363, s_363, 3, [], (.ref 356), .none, .none, (.str (.ofString "ledgerspeak.tokens") 611), none, (.ref 362), .none, 0⟩), #[]⟩
noncomputable abbrev o_372 (P : Params) : Obj := ⟨(.type "dict"), none, (.dict (List.toArray [⟨PyData.keyHash P (.ofString "__module__"), (.str (.ofString "__module__") 620), (.str (.ofString "ledgerspeak.tokens") 611)⟩, ⟨PyData.keyHash P (.ofString "__firstlineno__"), (.str (.ofString "__firstlineno__") 624), (.int 255 623)⟩, ⟨PyData.keyHash P (.ofString "__init__"), (.str (.ofString "__init__") 637), (.ref 363)⟩, ⟨PyData.keyHash P (.ofString "told"), (.str (.ofString "told") 644), (.ref 370)⟩, ⟨PyData.keyHash P (.ofString "__static_attributes__"), (.str (.ofString "__static_attributes__") 649), (.ref 371)⟩, ⟨PyData.keyHash P (.ofString "__dict__"), (.str (.ofString "__dict__") 651), (.ref 374)⟩, ⟨PyData.keyHash P (.ofString "__weakref__"), (.str (.ofString "__weakref__") 653), (.ref 375)⟩, ⟨PyData.keyHash P (.ofString "__doc__"), (.str (.ofString "__doc__") 654), .none⟩]) 4), #[]⟩
noncomputable abbrev o_373 (P : Params) : Obj := ⟨(.type "type"), none, (.cls ⟨(.ofString "Token"), [(.type "object")], [(.ref 373), (.type "object")], 372, (.ofString "Token"), true, [], [], false, none, false⟩), #[none, none, (some (.str (.ofString "Token") 613)), (some (.str (.ofString "Token") 621)), (some (.builtin "object.__new__")), (some (.bool true))]⟩
noncomputable abbrev o_383 (P : Params) : Obj := ⟨(.type "code"), none, (.fields #[(.str (.ofString "_law_draw") 659), (.str (.ofString "_law_draw") 660), (.str (.ofString "/claim/cut.py") 661), (.int 266 0), (.int 2 0), (.int 0 0), (.int 0 0), (.int 3 0), (.ref 378), (.bool true), (.int 181 0), (.ref 379), .none, (.ref 380), (.ref 381), (.ref 382), (.int 666 0), (.int 266 0), (.str (.ofString "/claim/cut.py") 667)]), #[]⟩
noncomputable abbrev p_384 : Arguments := by
  refine (fun (x : Arguments) (_ : pOf (stAt 26) = x) => x) ?b ?h
  case h =>
    conv => lhs; whnf
noncomputable abbrev b_384 : List Stmt := by
  refine (fun (x : List Stmt) (_ : bOf (stAt 26) = x) => x) ?b ?h
  case h =>
    conv => lhs; whnf
noncomputable abbrev s_384 : Scope := by
  refine (fun (x : Scope) (_ : sOf (stAt 26) = x) => x) ?b ?h
  case h =>
    conv => lhs; whnf
noncomputable abbrev o_384 (P : Params) : Obj := ⟨(.type "function"), none, (.func ⟨(.ofString "_law_draw"), (.ofString "_law_draw"), p_384, .stmts b_384, s_384, 3, [], .none, .none, .none, (.str (.ofString "law_pc0136_01") 657), none, (.ref 383), .none, 0⟩), #[]⟩
noncomputable abbrev o_390 (P : Params) : Obj := ⟨(.type "code"), none, (.fields #[(.str (.ofString "_law_tokens") 669), (.str (.ofString "_law_tokens") 670), (.str (.ofString "/claim/cut.py") 671), (.int 270 0), (.int 1 0), (.int 0 0), (.int 0 0), (.int 3 0), (.ref 385), (.bool true), (.int 181 0), (.ref 386), .none, (.ref 387), (.ref 388), (.ref 389), (.int 675 0), (.int 270 0), (.str (.ofString "/claim/cut.py") 676)]), #[]⟩
noncomputable abbrev p_391 : Arguments := by
  refine (fun (x : Arguments) (_ : pOf (stAt 27) = x) => x) ?b ?h
  case h =>
    conv => lhs; whnf
noncomputable abbrev b_391 : List Stmt := by
  refine (fun (x : List Stmt) (_ : bOf (stAt 27) = x) => x) ?b ?h
  case h =>
    conv => lhs; whnf
noncomputable abbrev s_391 : Scope := by
  refine (fun (x : Scope) (_ : sOf (stAt 27) = x) => x) ?b ?h
  case h =>
    conv => lhs; whnf
noncomputable abbrev o_391 (P : Params) : Obj := ⟨(.type "function"), none, (.func ⟨(.ofString "_law_tokens"), (.ofString "_law_tokens"), p_391, .stmts b_391, s_391, 3, [], .none, .none, .none, (.str (.ofString "law_pc0136_01") 657), none, (.ref 390), .none, 0⟩), #[]⟩
noncomputable abbrev o_395 (P : Params) : Obj := ⟨(.type "code"), none, (.fields #[(.str (.ofString "_law_select") 678), (.str (.ofString "_law_select") 679), (.str (.ofString "/claim/cut.py") 680), (.int 278 0), (.int 2 0), (.int 0 0), (.int 0 0), (.int 3 0), (.ref 392), (.bool true), (.int 181 0), (.ref 393), .none, .none, .none, (.ref 394), (.int 681 0), (.int 278 0), (.str (.ofString "/claim/cut.py") 682)]), #[]⟩
noncomputable abbrev p_396 : Arguments := by
  refine (fun (x : Arguments) (_ : pOf (stAt 28) = x) => x) ?b ?h
  case h =>
    conv => lhs; whnf
noncomputable abbrev b_396 : List Stmt := by
  refine (fun (x : List Stmt) (_ : bOf (stAt 28) = x) => x) ?b ?h
  case h =>
    conv => lhs; whnf
noncomputable abbrev s_396 : Scope := by
  refine (fun (x : Scope) (_ : sOf (stAt 28) = x) => x) ?b ?h
  case h =>
    conv => lhs; whnf
noncomputable abbrev o_396 (P : Params) : Obj := ⟨(.type "function"), none, (.func ⟨(.ofString "_law_select"), (.ofString "_law_select"), p_396, .stmts b_396, s_396, 3, [], .none, .none, .none, (.str (.ofString "law_pc0136_01") 657), none, (.ref 395), .none, 0⟩), #[]⟩
noncomputable abbrev o_402 (P : Params) : Obj := ⟨(.type "code"), none, (.fields #[(.str (.ofString "_law_refused") 684), (.str (.ofString "_law_refused") 685), (.str (.ofString "/claim/cut.py") 686), (.int 306 0), (.int 1 0), (.int 0 0), (.int 0 0), (.int 3 0), (.ref 397), (.bool true), (.int 181 0), (.ref 398), .none, (.ref 399), (.ref 400), (.ref 401), (.int 688 0), (.int 306 0), (.str (.ofString "/claim/cut.py") 689)]), #[]⟩
noncomputable abbrev p_403 : Arguments := by
  refine (fun (x : Arguments) (_ : pOf (stAt 29) = x) => x) ?b ?h
  case h =>
    conv => lhs; whnf
noncomputable abbrev b_403 : List Stmt := by
  refine (fun (x : List Stmt) (_ : bOf (stAt 29) = x) => x) ?b ?h
  case h =>
    conv => lhs; whnf
noncomputable abbrev s_403 : Scope := by
  refine (fun (x : Scope) (_ : sOf (stAt 29) = x) => x) ?b ?h
  case h =>
    conv => lhs; whnf
noncomputable abbrev o_403 (P : Params) : Obj := ⟨(.type "function"), none, (.func ⟨(.ofString "_law_refused"), (.ofString "_law_refused"), p_403, .stmts b_403, s_403, 3, [], .none, .none, .none, (.str (.ofString "law_pc0136_01") 657), none, (.ref 402), .none, 0⟩), #[]⟩
noncomputable abbrev o_407 (P : Params) : Obj := ⟨(.type "code"), none, (.fields #[(.str (.ofString "law") 691), (.str (.ofString "law") 692), (.str (.ofString "/claim/cut.py") 693), (.int 312 0), (.int 1 0), (.int 0 0), (.int 0 0), (.int 3 0), (.ref 404), (.bool true), (.int 181 0), (.ref 405), .none, .none, .none, (.ref 406), (.int 694 0), (.int 312 0), (.str (.ofString "/claim/cut.py") 695)]), #[]⟩
noncomputable abbrev p_408 : Arguments := by
  refine (fun (x : Arguments) (_ : pOf (stAt 30) = x) => x) ?b ?h
  case h =>
    conv => lhs; whnf
noncomputable abbrev b_408 : List Stmt := by
  refine (fun (x : List Stmt) (_ : bOf (stAt 30) = x) => x) ?b ?h
  case h =>
    conv => lhs; whnf
noncomputable abbrev s_408 : Scope := by
  refine (fun (x : Scope) (_ : sOf (stAt 30) = x) => x) ?b ?h
  case h =>
    conv => lhs; whnf
noncomputable abbrev o_408 (P : Params) : Obj := ⟨(.type "function"), none, (.func ⟨(.ofString "law"), (.ofString "law"), p_408, .stmts b_408, s_408, 3, [], .none, .none, .none, (.str (.ofString "law_pc0136_01") 657), none, (.ref 407), .none, 0⟩), #[]⟩
noncomputable def K0 (P : Params) : Frag := (nat_lit 2, o_2 P) :: (nat_lit 3, o_3 P) :: (nat_lit 29, o_29 P) :: (nat_lit 30, o_30 P) :: (nat_lit 36, o_36 P) :: (nat_lit 37, o_37 P) :: (nat_lit 46, o_46 P) :: (nat_lit 47, o_47 P) :: (nat_lit 59, o_59 P) :: (nat_lit 60, o_60 P) :: (nat_lit 63, o_63 P) :: (nat_lit 64, o_64 P) :: (nat_lit 77, o_77 P) :: (nat_lit 78, o_78 P) :: (nat_lit 84, o_84 P) :: (nat_lit 85, o_85 P) :: (nat_lit 87, o_87 P) :: (nat_lit 88, o_88 P) :: (nat_lit 98, o_98 P) :: (nat_lit 99, o_99 P) :: (nat_lit 105, o_105 P) :: (nat_lit 106, o_106 P) :: (nat_lit 112, o_112 P) :: (nat_lit 113, o_113 P) :: (nat_lit 117, o_117 P) :: (nat_lit 118, o_118 P) :: (nat_lit 124, o_124 P) :: (nat_lit 125, o_125 P) :: (nat_lit 131, o_131 P) :: (nat_lit 132, o_132 P) :: (nat_lit 138, o_138 P) :: (nat_lit 139, o_139 P) :: (nat_lit 145, o_145 P) :: (nat_lit 146, o_146 P) :: (nat_lit 152, o_152 P) :: (nat_lit 153, o_153 P) :: (nat_lit 159, o_159 P) :: (nat_lit 160, o_160 P) :: (nat_lit 166, o_166 P) :: (nat_lit 167, o_167 P) :: (nat_lit 173, o_173 P) :: (nat_lit 174, o_174 P) :: (nat_lit 182, o_182 P) :: (nat_lit 188, o_188 P) :: (nat_lit 189, o_189 P) :: (nat_lit 190, o_190 P) :: (nat_lit 196, o_196 P) :: (nat_lit 197, o_197 P) :: (nat_lit 203, o_203 P) :: (nat_lit 204, o_204 P) :: (nat_lit 210, o_210 P) :: (nat_lit 211, o_211 P) :: (nat_lit 217, o_217 P) :: (nat_lit 218, o_218 P) :: (nat_lit 219, o_219 P) :: (nat_lit 225, o_225 P) :: (nat_lit 226, o_226 P) :: (nat_lit 232, o_232 P) :: (nat_lit 233, o_233 P) :: (nat_lit 239, o_239 P) :: (nat_lit 240, o_240 P) :: (nat_lit 246, o_246 P) :: (nat_lit 247, o_247 P) :: (nat_lit 260, o_260 P) :: (nat_lit 261, o_261 P) :: (nat_lit 262, o_262 P) :: (nat_lit 268, o_268 P) :: (nat_lit 269, o_269 P) :: (nat_lit 275, o_275 P) :: (nat_lit 276, o_276 P) :: (nat_lit 284, o_284 P) :: (nat_lit 290, o_290 P) :: (nat_lit 291, o_291 P) :: (nat_lit 297, o_297 P) :: (nat_lit 298, o_298 P) :: (nat_lit 304, o_304 P) :: (nat_lit 305, o_305 P) :: (nat_lit 332, o_332 P) :: (nat_lit 333, o_333 P) :: (nat_lit 342, o_342 P) :: (nat_lit 343, o_343 P) :: (nat_lit 355, o_355 P) :: (nat_lit 356, o_356 P) :: (nat_lit 362, o_362 P) :: (nat_lit 363, o_363 P) :: (nat_lit 372, o_372 P) :: (nat_lit 373, o_373 P) :: (nat_lit 383, o_383 P) :: (nat_lit 384, o_384 P) :: (nat_lit 390, o_390 P) :: (nat_lit 391, o_391 P) :: (nat_lit 395, o_395 P) :: (nat_lit 396, o_396 P) :: (nat_lit 402, o_402 P) :: (nat_lit 403, o_403 P) :: (nat_lit 407, o_407 P) :: (nat_lit 408, o_408 P) :: []
noncomputable def as0 : List Addr := [nat_lit 2, nat_lit 3, nat_lit 29, nat_lit 30, nat_lit 36, nat_lit 37, nat_lit 46, nat_lit 47, nat_lit 59, nat_lit 60, nat_lit 63, nat_lit 64, nat_lit 77, nat_lit 78, nat_lit 84, nat_lit 85, nat_lit 87, nat_lit 88, nat_lit 98, nat_lit 99, nat_lit 105, nat_lit 106, nat_lit 112, nat_lit 113, nat_lit 117, nat_lit 118, nat_lit 124, nat_lit 125, nat_lit 131, nat_lit 132, nat_lit 138, nat_lit 139, nat_lit 145, nat_lit 146, nat_lit 152, nat_lit 153, nat_lit 159, nat_lit 160, nat_lit 166, nat_lit 167, nat_lit 173, nat_lit 174, nat_lit 182, nat_lit 188, nat_lit 189, nat_lit 190, nat_lit 196, nat_lit 197, nat_lit 203, nat_lit 204, nat_lit 210, nat_lit 211, nat_lit 217, nat_lit 218, nat_lit 219, nat_lit 225, nat_lit 226, nat_lit 232, nat_lit 233, nat_lit 239, nat_lit 240, nat_lit 246, nat_lit 247, nat_lit 260, nat_lit 261, nat_lit 262, nat_lit 268, nat_lit 269, nat_lit 275, nat_lit 276, nat_lit 284, nat_lit 290, nat_lit 291, nat_lit 297, nat_lit 298, nat_lit 304, nat_lit 305, nat_lit 332, nat_lit 333, nat_lit 342, nat_lit 343, nat_lit 355, nat_lit 356, nat_lit 362, nat_lit 363, nat_lit 372, nat_lit 373, nat_lit 383, nat_lit 384, nat_lit 390, nat_lit 391, nat_lit 395, nat_lit 396, nat_lit 402, nat_lit 403, nat_lit 407, nat_lit 408]
-- m0 11 toks 697 ann (.ref 6)

noncomputable def Q0 : Program := { P with main := { P.main with body := [stAt 30] } }
noncomputable def loose0 : List Str := [(.ofString "_wall"), (.ofString "LedgerError"), (.ofString "GrammarFault"), (.ofString "ORGANIZATIONS"), (.ofString "ACCESSES"), (.ofString "FileSpec"), (.ofString "one_word"), (.ofString "read_assign"), (.ofString "read_record_key"), (.ofString "read_alternate"), (.ofString "read_relative"), (.ofString "read_clause"), (.ofString "is_whole_spec"), (.ofString "read_select"), (.ofString "is_behind"), (.ofString "pass_configuration"), (.ofString "read_environment"), (.ofString "RESERVED"), (.ofString "is_reserved"), (.ofString "Reader"), (.ofString "Token"), (.ofString "_law_draw"), (.ofString "_law_tokens"), (.ofString "_law_select"), (.ofString "_law_refused")]
theorem keys0 : ∀ p : Params, as0 = (K0 p).map (·.1) := fun _ => by kernel_rfl
noncomputable abbrev H0 : Hook := kHook K0 as0 keys0
noncomputable abbrev Xt0 : Shared → Bool := fun s => xlAt Q0 [] s && recOk (LW.row.records) s
theorem open0 : ∀ w : World, (fencedOpening treeTable P w 6000).map (fun s => (s.heap, s.gens, s.drawn, s.toks)) = some (boot_heap w.params, Array.mk [], boot_drawn, boot_toks) :=
  boot_open (by kernel_rfl) (by decide) (fun s => by kernel_rfl)
theorem left_of {p q : Program} {loose : List Str} {Xt : Shared → Bool} {α : Type} {Yf : Shared → α} {Ya : World → α} {N : Nat} {H₀ : Params → Heap} {gs₀ : Array GenState} {d₀ : Drawn} {k₀ : Nat}
    (open_ : ∀ w : World, (fencedOpening treeTable p w N).map (fun s => (s.heap, s.gens, s.drawn, s.toks)) = some (H₀ w.params, gs₀, d₀, k₀))
    (one : ∀ w : World, (fun os => (topFrom treeTable p w N ⟨H₀ w.params, gs₀, d₀, k₀, os⟩).map (fun s => (openSeen q loose (importedModules p.main.body) Xt true s, Yf s))) = fun _ => some (openGood q loose, Ya w)) :
    LeftO p q loose Xt Yf Ya N := fun w => by
  obtain ⟨⟨h, gs, d, k, os⟩, e, e'⟩ := Option.map_eq_some_iff.mp (open_ w)
  obtain ⟨rfl, rfl, rfl, rfl⟩ : h = H₀ w.params ∧ gs = gs₀ ∧ d = d₀ ∧ k = k₀ := by simpa using e'
  unfold openEnds
  rw [e]
  exact congrFun (one w) os
noncomputable def runT (stp : SharedT → Thread → Option (SharedT × Thread)) (n₀ : Nat) (ann : Option Value) : Nat → SharedT → Thread → Option SharedT
  | 0, _, _ => none
  | n + 1, s, t => match through t with
    | true => some s
    | false => match stepOk n₀ ann t with
      | false => none
      | true => match stp s t with
        | some (s', t') => runT stp n₀ ann n s' t'
        | none => none
theorem runT_of {tb : String → Option Builtin} {p : Program} {w : World} {n₀ : Nat} {ann : Option Value} {s' : SharedT} (n : Nat) : ∀ (s : SharedT) (t : Thread), runT (stepT (denote tb) p w) n₀ ann n s t = some s' → topRun tb p w n₀ ann n s.abs t = some s'.abs := by
  induction n with
  | zero => exact fun _ _ h => nomatch h
  | succ n ih =>
    intro s t
    rw [runT, topRun]
    rcases through t with _ | _
    · rcases stepOk n₀ ann t with _ | _
      · exact fun h => nomatch h
      · dsimp only
        rcases e : stepT (denote tb) p w s t with _ | ⟨s₂, t₂⟩
        · exact fun h => nomatch h
        · intro h
          rw [stepT_spec e]
          exact ih s₂ t₂ h
    · exact fun h => congrArg (Option.map SharedT.abs) h
noncomputable def bootT (P : Params) : BT := ((((((((((BT.nil.ins 0 (boot_o_0 P)).ins 1 (boot_o_1 P)).ins 2 (boot_o_2 P)).ins 3 (boot_o_3 P)).ins 4 (boot_o_4 P)).ins 5 (boot_o_5 P)).ins 6 (boot_o_6 P)).ins 7 (boot_o_7 P)).ins 8 (boot_o_8 P)).ins 9 (boot_o_9 P)).ins 10 (boot_o_10 P)
noncomputable def bootS (P : Params) (os : OsState) : SharedT := ⟨bootT P, 11, {}, Array.mk [], boot_drawn, boot_toks, os⟩
theorem bootS_abs (P : Params) (os : OsState) : (bootS P os).abs = ⟨boot_heap P, Array.mk [], boot_drawn, boot_toks, os⟩ := by kernel_rfl
noncomputable abbrev endF (w : World) (s₁ : Shared) : Option Shared := match staticsOk (importedModules P.main.body) (boot_heap w.params) s₁.heap && namesBound P s₁.heap && gensDone s₁ && laidKept (boot_heap w.params) s₁.heap with
  | true => some s₁
  | false => none
theorem oneT : ∀ w : World, (fun os => (runT (stepT (denote treeTable) P w) (boot_heap w.params).objs.size ((boot_heap w.params).nsMap mainGlobals "__annotations__") 6000 (bootS w.params os) (topStub P)).bind (fun s => (endF w s.abs).map (fun s => (openSeen Q0 loose0 (importedModules P.main.body) Xt0 true s, H0.obs s)))) = fun _ => some (openGood Q0 loose0, H0.val w) := by
  intro w
  rw [PySem.W.Fast.te10156331382660048174, PySem.W.Fast.te11892475500146522536, PySem.W.Fast.te14364793385576792824, PySem.W.Fast.te4187177175401517315]
  kernel_rfl
theorem one0 : ∀ w : World, (fun os => (topFrom treeTable P w 6000 ⟨boot_heap w.params, Array.mk [], boot_drawn, boot_toks, os⟩).map (fun s => (openSeen Q0 loose0 (importedModules P.main.body) Xt0 true s, H0.obs s))) = fun _ => some (openGood Q0 loose0, H0.val w) := by
  intro w
  funext os
  have h := congrFun (oneT w) os
  obtain ⟨s, e, e2⟩ := Option.bind_eq_some_iff.mp h
  have e1 := runT_of _ _ _ e
  rw [bootS_abs] at e1
  have hn : ((boot_heap w.params).isNs mainGlobals && (Array.mk ([] : List GenState)).size == 0) = true := by kernel_rfl
  unfold topFrom
  dsimp only
  rw [hn, e1]
  exact e2
theorem left0 : LeftO LW.row.prog Q0 loose0 Xt0 H0.obs H0.val 6000 := left_of open0 one0
noncomputable abbrev d0 : DefRec := { name := (.ofString "law"), params := p_408, body := b_408, scope := s_408, pos := ⟨312, 0, 332, 80⟩ }
theorem top0 (hc : WalkO Q0 loose0 (XL Q0 []) H0.says LW.row.toRowW d0 [] fun f vs => call f vs) : PySem.Challenge.rw_pc0136_01.Holds := by
  refine holds_law said fun said => ?_
  refine holds_open (q := Q0) (loose := loose0) (Xt := Xt0) (XP := XL Q0 []) (Yf := H0.obs) (Ya := H0.val) (YP := H0.says) (N := 6000) left0 H0.of H0.keeps (fun s e => xl_of s (Bool.and_eq_true_iff.mp e).1) XL.keeps ?h1 ?h2 ?h3 (fun s e => recFacts_of (Bool.and_eq_true_iff.mp e).2) (by rfl) said ?h4 ⟨rfl, rfl, rfl, rfl, rfl, by decide +kernel⟩ ?hw hc
  case h1 => kernel_rfl
  case h2 => kernel_rfl
  case h3 => kernel_rfl
  case h4 => decide +kernel
  case hw => w_witness2
noncomputable abbrev Kw (w : World) : Frag := K0 w.params
noncomputable abbrev PR : Program := PySem.Challenge.rw_pc0136_01.row.prog
noncomputable abbrev Mw (w : World) : Model := model PR w

/-- what stands since the top ran -/
structure G1 (w : World) (h : Heap) : Prop where
  X : (Kw w).In h
  T : ∃ p loose mg mb, TopRead p loose mg mb h
theorem G1.keeps {w : World} {h h' : Heap} (G : G1 w h) (k : ∀ b o, h.get? b = some o → h'.get? b = some o) : G1 w h' :=
  ⟨G.X.keeps k, let ⟨p, l, mg, mb, T⟩ := G.T; ⟨p, l, mg, mb, T.keeps k⟩⟩

/-- h' is h with more, and other objects at D alone -/
noncomputable def Ext (D : List Addr) (h h' : Heap) : Prop := ∀ b o, h.get? b = some o → b ∉ D → h'.get? b = some o
theorem Ext.refl (D : List Addr) (h : Heap) : Ext D h h := fun _ _ e _ => e
theorem Ext.trans {D : List Addr} {h h' h'' : Heap} (x : Ext D h h') (y : Ext D h' h'') : Ext D h h'' := fun b o e n => y b o (x b o e n) n
theorem Ext.wide {D D' : List Addr} {h h' : Heap} (x : Ext D h h') (k : ∀ d ∈ D, d ∈ D') : Ext D' h h' := fun b o e n => x b o e fun m => n (k b m)
theorem Ext.nil {D : List Addr} {h h' : Heap} (x : Ext [] h h') : Ext D h h' := x.wide fun _ m => nomatch m
theorem Ext.push (h : Heap) (o : Obj) : Ext [] h (h.push o) := fun b o' e _ => Heap.get?_push_of_some _ e
theorem Ext.keeps {h h' : Heap} (x : Ext [] h h') : ∀ b o, h.get? b = some o → h'.get? b = some o := fun b o e => x b o e (fun m => nomatch m)
theorem Ext.ofKeeps {h h' : Heap} (x : ∀ b o, h.get? b = some o → h'.get? b = some o) : Ext [] h h' := fun b o e _ => x b o e

noncomputable def look (ls : List (Str × Value)) : Str → Option Value := fun y => ls.lookup y
theorem look_put (ls : List (Str × Value)) (x : Str) (v : Value) : (fun y => if y = x then some v else look ls y) = look ((x, v) :: ls) := by
  funext y
  unfold look
  rw [List.lookup_cons]
  by_cases h : y = x
  · subst h; simp
  · rw [if_neg h]
    have : (y == x) = false := by simp [h]
    rw [this]
theorem look_here (ls : List (Str × Value)) (x : Str) (v : Value) : look ((x, v) :: ls) x = some v := by unfold look; rw [List.lookup_cons]; simp
theorem look_there {ls : List (Str × Value)} {x k : Str} {v u : Value} (h : look ls x = some v) (n : (x == k) = false := by decide +kernel) : look ((k, u) :: ls) x = some v := by
  unfold look at h ⊢; rw [List.lookup_cons, n]; exact h

theorem fr_ext {hz h h' : Heap} {L : Addr} {m : Str → Option Value} {D : List Addr} (F : Fr hz L h m) (x : Ext D h h') (hL : L ∉ D) (hD : ∀ d ∈ D, hz.get? d = none) : Fr hz L h' m := by
  obtain ⟨⟨o, es, ep, ho, r⟩, k, a⟩ := F
  refine ⟨⟨o, es, ep, x _ _ ho hL, r⟩, fun b o e => x b o (k b o e) fun m => ?_, a⟩
  rw [hD b m] at e; cases e

/-- the written part lies below 409 -/
theorem k_low {P : Params} {a : Addr} {o : Obj} (e : (K0 P).lookup a = some o) : a < 409 := by
  have m : a ∈ (K0 P).map (·.1) := by
    have : (a, o) ∈ K0 P := by
      generalize K0 P = K at e ⊢
      induction K with
      | nil => cases e
      | cons p K ih =>
        rw [List.lookup_cons] at e
        cases q : a == p.1 with
        | true => rw [q] at e; cases e; rw [beq_iff_eq] at q; subst q; exact .head _
        | false => rw [q] at e; exact .tail _ (ih e)
    exact List.mem_map_of_mem (f := (·.1)) this
  rw [← keys0 P] at m
  have : ∀ x ∈ as0, x < 409 := by decide +kernel
  exact this a m
theorem ns_hide {h : Heap} {a : Addr} {m : Str → Option Value} {D : List Addr} (n : h.Ns a m) (hD : a ∉ D) : (hideAll h D).Ns a m := by
  obtain ⟨o, es, ep, ho, r⟩ := n
  exact ⟨o, es, ep, hideAll_get D ho hD, r⟩
theorem G1.hide {w : World} {h : Heap} (G : G1 w h) {D : List Addr} (hD : ∀ d ∈ D, 409 ≤ d) : G1 w (hideAll h D) := by
  have out : ∀ {a : Addr}, a < 409 → a ∉ D := fun l m => absurd (hD _ m) (Nat.not_le.mpr l)
  refine ⟨fun a o e => hideAll_get D (G.X a o e) (out (k_low e)), ?_⟩
  obtain ⟨p, l, mg, mb, g, b, nl, bi, fr⟩ := G.T
  obtain ⟨mc, nc, e⟩ := nl
  exact ⟨p, l, mg, mb, ns_hide g (out (by decide)), ns_hide b (out (by decide)), ⟨mc, ns_hide nc (out (by decide)), e⟩, bi, fr⟩
theorem G1.size {w : World} {h : Heap} (G : G1 w h) : 409 ≤ h.objs.size := by
  have : (K0 w.params).lookup 408 = some (o_408 w.params) := by kernel_rfl
  exact Heap.lt_size (G.X _ _ this)

/-- how a def of the text is entered -/
structure FnS (w : World) (f : Addr) (qual : Str) (body : List Stmt) (scope : Scope) (cdv : Value) (args : List Value) (binds : List (Str × Value)) : Prop where
  fn : ∃ fd : FuncData, ∃ oc od osl, (Kw w).lookup f = some ⟨oc, od, .func fd, osl⟩ ∧ fd.qualname = qual ∧ fd.body = .stmts body ∧ fd.scope = scope ∧ fd.code = cdv ∧ fd.globals = mainGlobals ∧ fd.closure = [] ∧ fd.builtins = builtinsNs ∧
    ∀ (s : Shared), (Kw w).In s.heap → BindsTo s fd ⟨args, []⟩ binds
  code : codeIn (Kw w) cdv qual = true
  locs : ∀ x ∈ binds, scope.names.lookup x.1 = some .local
  co : scope.isCoroutine = false
  gen : scope.isGenerator = false
  kind : scope.kind = .function
  cell : ∀ x ∈ scope.names, x.2 ≠ .cell
noncomputable def retOf : Flow → Value
  | .ret v => v
  | _ => .none
theorem enter {w : World} {f : Addr} {qual : Str} {body : List Stmt} {scope : Scope} {cdv : Value} {args : List Value} {binds : List (Str × Value)} {A : Around} {s : Shared} {R : Result → Shared → Prop}
    (D : List Addr) (S : FnS w f qual body scope cdv args binds) (G : G1 w s.heap) (hD : ∀ d ∈ D, 409 ≤ d) (hroom : A.depth < recursionLimit)
    (h : ∀ hz L h₁, hz = hideAll s.heap D → G1 w hz → Fr hz L h₁ (look binds.reverse) → Ext [] s.heap h₁ → L = s.heap.objs.size → (∀ d ∈ D, hz.get? d = none) →
      wpAny (Mw w) (A.deeper (envOf qual scope L f cdv)) (execs body (envOf qual scope L f cdv)) (fun fl s' => R (.ok (.ret (retOf fl))) s')
        (fun e s' => wpAny (Mw w) (A.deeper (envOf qual scope L f cdv)) (leaving (envOf qual scope L f cdv) e) (fun _ s'' => R (.error e) s'') (fun e' s'' => R (.error e') s'') s')
        { s with heap := h₁, toks := s.toks + binds.length }) : codeAny (Mw w) A (.call (.ref f) ⟨args, []⟩) R s := by
  obtain ⟨⟨fd, oc, od, osl, ho, rfl, hb, rfl, rfl, hg, hc, hbi, hbind⟩, hcd, hloc, co, gen, kind, cell⟩ := S
  obtain ⟨p, l, mg, mb, T⟩ := G.T
  have env_is : ∀ L, callEnv fd L f = envOf fd.qualname fd.scope L f fd.code := fun L => by
    unfold callEnv envOf; rw [hg, hc, hbi]; rfl
  refine codeAny_call_def (fd := fd) (body := body) (binds := binds) hroom (G.X _ _ ho) rfl T.nolimit (codeRec_of G.X hcd) hb (hbind s G.X) cell hloc (fun h₁ hns hk => ?_) co gen kind
  rw [env_is]
  refine wpAny_mono (h _ s.heap.objs.size h₁ rfl (G.hide hD) ⟨hns, fun b o e => hk b o (of_hideAll D e), by rw [hideAll_size]; exact Nat.le_refl _⟩ (fun b o e _ => hk b o e) rfl fun d m => hideAll_none D m) (fun fl s' q => ?_) fun _ _ x => x
  cases fl <;> exact q

/-- the entries of an object's dict, by names and values -/
inductive EsAre : List DictEntry → List (Str × Value) → Prop
  | nil : EsAre [] []
  | cons {hh : Int} {k : Str} {t : Tok} {v : Value} {es fs} : EsAre es fs → EsAre (⟨hh, .str k t, v⟩ :: es) ((k, v) :: fs)
theorem isStr_str (k x : Str) (t : Tok) : (Value.str k t).isStr x = (k == x) := rfl
theorem EsAre.get {es : List DictEntry} {fs : List (Str × Value)} (H : EsAre es fs) (x : Str) : getL x es = some (fs.lookup x) := by
  induction H with
  | nil => rfl
  | @cons hh k t v es fs H ih =>
    unfold getL at ih ⊢
    rw [List.find?_cons, List.lookup_cons]
    show (match (match (k == x) with | true => some (⟨hh, .str k t, v⟩ : DictEntry) | false => es.find? fun e => e.key.isStr x) with | some e => some (some e.val) | none => if (List.any ((⟨hh, .str k t, v⟩ : DictEntry) :: es) fun e => e.refKey) then none else some none) = _
    by_cases q : k = x
    · subst q
      have q1 : (k == k) = true := by simp
      rw [q1]
    · have q1 : (k == x) = false := by simp [q]
      have q2 : (x == k) = false := beq_eq_false_iff_ne.mpr fun e => q e.symm
      rw [q1, q2]
      rw [List.any_cons]
      exact ih
noncomputable def put (fs : List (Str × Value)) (x : Str) (v : Value) : List (Str × Value) := match fs with
  | [] => [(x, v)]
  | (k, u) :: r => if k == x then (k, v) :: r else (k, u) :: put r x v
theorem EsAre.put {es : List DictEntry} {fs : List (Str × Value)} (H : EsAre es fs) (x : Str) (v : Value) (hh : Int) (t : Tok) : EsAre (putL x hh (.str x t) v es) (put fs x v) := by
  induction H with
  | nil => exact .cons .nil
  | @cons hh' k t' u es fs H ih =>
    unfold putL Mine.put
    show EsAre (if (k == x) = true then _ else _) (if (k == x) = true then _ else _)
    split
    · exact .cons H
    · exact .cons ih
theorem put_length (fs : List (Str × Value)) (x : Str) (v : Value) : (put fs x v).length ≤ fs.length + 1 := by
  induction fs with
  | nil => exact Nat.le_refl _
  | cons p r ih =>
    unfold put
    split
    · exact Nat.le_succ _
    · exact Nat.succ_le_succ ih
theorem EsAre.length {es : List DictEntry} {fs : List (Str × Value)} (H : EsAre es fs) : es.length = fs.length := by induction H <;> simp_all

/-- x is an object of the class C with the fields fs, its dict at d -/
noncomputable def Inst (h : Heap) (C x d : Addr) (fs : List (Str × Value)) : Prop :=
  409 ≤ x ∧ 409 ≤ d ∧ h.get? x = some (instObj C d) ∧ ∃ es n, h.get? d = some (dictOf es n) ∧ EsAre es fs
theorem Inst.ext {h h' : Heap} {C x d : Addr} {fs} {D : List Addr} (I : Inst h C x d fs) (e : Ext D h h') (hx : x ∉ D) (hd : d ∉ D) : Inst h' C x d fs := by
  obtain ⟨a, b, c, es, n, q, H⟩ := I
  exact ⟨a, b, e _ _ c hx, es, n, e _ _ q hd, H⟩
theorem Inst.keeps {h h' : Heap} {C x d : Addr} {fs} (I : Inst h C x d fs) (k : ∀ b o, h.get? b = some o → h'.get? b = some o) : Inst h' C x d fs := by
  obtain ⟨a, b, c, es, n, q, H⟩ := I
  exact ⟨a, b, k _ _ c, es, n, k _ _ q, H⟩
theorem Inst.at {h : Heap} {C x d : Addr} {fs} (I : Inst h C x d fs) : ∃ es n, InstAt h x (instObj C d) C (some (dictOf es n)) ∧ EsAre es fs := by
  obtain ⟨_, _, c, es, n, q, H⟩ := I
  exact ⟨es, n, ⟨c, rfl, rfl, q⟩, H⟩

structure AttrS (w : World) (C : Addr) (name : Str) : Prop where
  hg : plainGet (Kw w) C name = true
  hh : hasDictIn (Kw w) C = true
  ha : ∃ attr, findIn (Kw w) (.ref C) name = some attr ∧ noGet (Kw w) attr = true
structure MethS (w : World) (C : Addr) (name : Str) (f : Addr) : Prop where
  hg : plainGet (Kw w) C name = true
  hf : findIn (Kw w) (.ref C) name = some (some (.ref f))
  ht : isFn (Kw w) (.ref f) = true
  keep : keepIn (Kw w) (.ref f) = true
structure SetS (w : World) (C : Addr) (name : Str) : Prop where
  hs : findIn (Kw w) (.ref C) "__setattr__" = some (some (.builtin "object.__setattr__"))
  hp : plainOver (Kw w) C = true
  ht : takerIn (Kw w) C name = some none
  hh : hasDictIn (Kw w) C = true
/-- a name of the frame -/
structure Loc (sc : Scope) (x : Str) : Prop where
  kind : sc.kind = .function
  loc : sc.names.lookup x = some .local
  nd : (x == ("__debug__" : Str)) = false
structure Glo (sc : Scope) (x : Str) : Prop where
  kind : sc.kind = .function
  glo : sc.names.lookup x = some .globalImplicit
  nd : (x == ("__debug__" : Str)) = false

section
variable {w : World} {A : Around} {E : Value → Shared → Prop} {s : Shared} {hz : Heap} {L f : Addr} {ls : List (Str × Value)} {qn : Str} {sc : Scope} {cd : Value}
theorem ev_loc {x : Str} {pos : Pos} {v : Value} {Q : Value → Shared → Prop} (F : Fr hz L s.heap (look ls)) (S : Loc sc x) (hv : look ls x = some v) (h : Q v s) :
    wpAny (Mw w) A (eval (.Name x pos) (envOf qn sc L f cd)) Q E s := ld F hv h S.kind S.loc S.nd
theorem ev_glo {x : Str} {pos : Pos} {v : Value} {Q : Value → Shared → Prop} (G : G1 w hz) (F : Fr hz L s.heap (look ls)) (S : Glo sc x) (e : nsIn (Kw w) mainGlobals x = some (some v)) (h : Q v s) :
    wpAny (Mw w) A (eval (.Name x pos) (envOf qn sc L f cd)) Q E s := by
  obtain ⟨p, l, mg, mb, T⟩ := G.T
  exact name_K F G.X T e h S.kind S.glo S.nd
theorem ev_blt {x : Str} {pos : Pos} {v : Value} {Q : Value → Shared → Prop} (G : G1 w hz) (F : Fr hz L s.heap (look ls)) (S : Glo sc x) (e : nsIn (Kw w) mainGlobals x = some none) (hv : bootBuiltins x = some v) (hn : x ≠ "__name__") (h : Q v s) :
    wpAny (Mw w) A (eval (.Name x pos) (envOf qn sc L f cd)) Q E s := by
  obtain ⟨p, l, mg, mb, T⟩ := G.T
  exact name_B F G.X T e hv hn h S.kind S.glo S.nd
theorem ev_attr {x name : Str} {xp pos : Pos} {r C d : Addr} {fs : List (Str × Value)} {v : Value} {Q : Value → Shared → Prop} (G : G1 w hz) (F : Fr hz L s.heap (look ls)) (S : Loc sc x) (hx : look ls x = some (.ref r))
    (I : Inst s.heap C r d fs) (SA : AttrS w C name) (hl : fs.lookup name = some v) (hv : handedIn v = true) (h : Q v { s with toks := s.toks + 1 }) :
    wpAny (Mw w) A (eval (.Attribute (.Name x xp) name pos) (envOf qn sc L f cd)) Q E s := by
  refine Attribute_name (ev_loc F S hx ?_)
  obtain ⟨es, n, I', H⟩ := I.at
  obtain ⟨attr, a, b⟩ := SA.ha
  exact get_own F G.X I' SA.hg SA.hh a b (by rw [H.get, hl]) hv h
/-- a method of an object that a name holds -/
theorem ev_meth {x name : Str} {xp apos pos : Pos} {r C d g : Addr} {fs : List (Str × Value)} {args : List PySem.Expr} {Q : Value → Shared → Prop} (G : G1 w hz) (F : Fr hz L s.heap (look ls)) (S : Loc sc x) (hx : look ls x = some (.ref r))
    (I : Inst s.heap C r d fs) (SM : MethS w C name g) (hl : fs.lookup name = none)
    (h : wpAny (Mw w) A (callWith pos (.ref g) [.ref r] (backTo pos (starEach args (envOf qn sc L f cd))) []) Q E s)
    (he : eval (.Call (.Attribute (.Name x xp) name apos) args [] pos) (envOf qn sc L f cd) = (do
      let ov ← eval (.Name x xp) (envOf qn sc L f cd)
      standAt apos.atName
      let (g, first) ← holding [ov] (getMethod ov name (do return (← importBound (.Name x xp) (envOf qn sc L f cd)).getD true))
      callWith pos g first (backTo pos (starEach args (envOf qn sc L f cd))) []) := by rfl) :
    wpAny (Mw w) A (eval (.Call (.Attribute (.Name x xp) name apos) args [] pos) (envOf qn sc L f cd)) Q E s := by
  refine MethodCall_ (ev_loc F S hx ?_) he
  obtain ⟨es, n, I', H⟩ := I.at
  exact method_inst F G.X I' SM.hg SM.hf SM.ht (by rw [H.get, hl]) h
/-- no, one, two arguments of a call of a def -/
theorem cw0 {g : Addr} {first : List Value} {pos : Pos} {Q : Value → Shared → Prop} (G : G1 w hz) (F : Fr hz L s.heap (look ls)) (hk : keepIn (Kw w) (.ref g) = true)
    (h : wpAny (Mw w) A (call (.ref g) (first ++ [])) Q E s) : wpAny (Mw w) A (callWith pos (.ref g) first (backTo pos (starEach [] (envOf qn sc L f cd))) []) Q E s :=
  callWith_K0 (G.X.keeps F.keep) hk h
theorem cw1 {g : Addr} {first : List Value} {pos : Pos} {e1 : PySem.Expr} {Q : Value → Shared → Prop} (G : G1 w hz) (hk : keepIn (Kw w) (.ref g) = true)
    (h : wpAny (Mw w) A (eval e1 (envOf qn sc L f cd)) (fun v s₁ => (∃ ls', Fr hz L s₁.heap (look ls')) ∧ wpAny (Mw w) A (call (.ref g) (first ++ [v])) Q E s₁) E s)
    (he : starEach [e1] (envOf qn sc L f cd) = [(false, eval e1 (envOf qn sc L f cd))] := by rfl) :
    wpAny (Mw w) A (callWith pos (.ref g) first (backTo pos (starEach [e1] (envOf qn sc L f cd))) []) Q E s :=
  callWith_K G.X hk (args_cons (wpAny_mono h (fun v s₁ q => args_nil ⟨let ⟨_, F⟩ := q.1; G.X.keeps F.keep, q.2⟩) fun _ _ x => x) he) he
theorem cw2 {g : Addr} {first : List Value} {pos : Pos} {e1 e2 : PySem.Expr} {Q : Value → Shared → Prop} (G : G1 w hz) (hk : keepIn (Kw w) (.ref g) = true)
    (h : wpAny (Mw w) A (eval e1 (envOf qn sc L f cd)) (fun v s₁ => wpAny (Mw w) A (eval e2 (envOf qn sc L f cd)) (fun u s₂ => (∃ ls', Fr hz L s₂.heap (look ls')) ∧ wpAny (Mw w) A (call (.ref g) (first ++ [v, u])) Q E s₂) E s₁) E s)
    (he : starEach [e1, e2] (envOf qn sc L f cd) = [(false, eval e1 (envOf qn sc L f cd)), (false, eval e2 (envOf qn sc L f cd))] := by rfl)
    (he2 : starEach [e2] (envOf qn sc L f cd) = [(false, eval e2 (envOf qn sc L f cd))] := by rfl) :
    wpAny (Mw w) A (callWith pos (.ref g) first (backTo pos (starEach [e1, e2] (envOf qn sc L f cd))) []) Q E s := by
  have h1 : starEach [e1, e2] (envOf qn sc L f cd) = (false, eval e1 (envOf qn sc L f cd)) :: starEach [e2] (envOf qn sc L f cd) := by rw [he, he2]
  exact callWith_K G.X hk (args_cons (wpAny_mono h (fun v s₁ q => args_cons (wpAny_mono q (fun u s₂ q => args_nil ⟨let ⟨_, F⟩ := q.1; G.X.keeps F.keep, q.2⟩) fun _ _ x => x) he2) fun _ _ x => x) h1) h1 (by rw [he2]; rfl)
/-- a name is stored -/
theorem st_name {x : Str} {v : Value} {Q : Unit → Shared → Prop} (F : Fr hz L s.heap (look ls)) (S : Loc sc x)
    (h : ∀ h', Fr hz L h' (look ((x, v) :: ls)) → Ext [L] s.heap h' → Q () { s with heap := h', toks := s.toks + 1 }) :
    wpAny (Mw w) A (storeName (envOf qn sc L f cd) x v) Q E s := by
  refine wpAny_storeName_local S.loc F.ns (fun h' hn hs => h h' ?_ (fun b o e n => (hs.2 b fun q => n (q ▸ .head _)).trans e))
    (by show (sc.kind == .class || (sc.kind == .module && L != mainGlobals)) = false; rw [S.kind]; rfl)
  have := F.set hn hs
  rw [look_put] at this
  exact this
theorem as_name {x : Str} {px pos : Pos} {value : PySem.Expr} {Q : Flow → Shared → Prop} (h : wpAny (Mw w) A (eval value (envOf qn sc L f cd)) (fun v s₁ => wpAny (Mw w) A (storeName (envOf qn sc L f cd) x v) (fun _ => Q .next) E s₁) E s)
    (hs : swapsWith value (some (.Name x px)) pos.line (envOf qn sc L f cd) = pure false := by rfl) : wpAny (Mw w) A (exec (.Assign [.Name x px] value pos) (envOf qn sc L f cd)) Q E s := wpAny_Assign_Name h hs
/-- every object of a heap but two -/
noncomputable def others (h : Heap) (L d : Addr) : List (Addr × Obj) := (List.range h.objs.size).filterMap fun b => if b = L ∨ b = d then none else (h.get? b).map fun o => (b, o)
theorem mem_others {h : Heap} {L d b : Addr} {o : Obj} : (b, o) ∈ others h L d ↔ h.get? b = some o ∧ b ≠ L ∧ b ≠ d := by
  unfold others
  rw [List.mem_filterMap]
  constructor
  · rintro ⟨c, _, e⟩
    split at e
    · cases e
    · rename_i n
      obtain ⟨o', e1, e2⟩ := Option.map_eq_some_iff.mp e
      cases e2
      exact ⟨e1, fun q => n (.inl q), fun q => n (.inr q)⟩
  · rintro ⟨e, n1, n2⟩
    refine ⟨b, List.mem_range.mpr (Heap.lt_size e), ?_⟩
    rw [if_neg (by rintro (q | q); exact n1 q; exact n2 q), e]; rfl
/-- an attribute of an object is stored -/
theorem set_attr {name : Str} {v : Value} {r C d : Addr} {fs : List (Str × Value)} {m : Str → Option Value} {Q : Unit → Shared → Prop} (G : G1 w hz) (F : Fr hz L s.heap m) (SA : SetS w C name)
    (I : Inst s.heap C r d fs) (hn : fs.length ≤ 900) (hLd : d ≠ L) (hLr : r ≠ L) (hzd : hz.get? d = none) (hrd : r ≠ d)
    (h : ∀ h', Fr hz L h' m → Ext [L, d] s.heap h' → Inst h' C r d (put fs name v) → Q () { s with heap := h', toks := s.toks + 2 }) :
    wpAny (Mw w) A (setAttr (.ref r) name v) Q E s := by
  obtain ⟨es, n, I', H⟩ := I.at
  obtain ⟨a1, a2, a3, -⟩ := I
  have X := G.X.keeps F.keep
  have F0 : Fr ({ objs := #[] } : Heap) L s.heap m := ⟨F.ns, fun b o e => by simp [Heap.get?] at e, Nat.zero_le _⟩
  have N0 : News ({ objs := #[] } : Heap) L s.heap ([] ++ (d, dictOf es n) :: others s.heap L d) := fun p hp => by
    rcases List.mem_cons.mp hp with rfl | hp
    · exact ⟨I'.dict, hLd, by simp [Heap.get?]⟩
    · obtain ⟨b, o⟩ := p
      obtain ⟨e, n1, n2⟩ := mem_others.mp hp
      exact ⟨e, n1, by simp [Heap.get?]⟩
  refine set_plain X I' SA.hs (osa_dict (s := { s with toks := s.toks + 1 }) F0 N0 X I' rfl SA.hp SA.ht SA.hh (by rw [lookIn_dict, H.get]; rfl) (fun _ m => nomatch m) (fun p hp => (mem_others.mp hp).2.2)
    (putName_dict _ _ _ _ _ _) rfl (by have := (H.put name v (PyData.keyHash w.params name) (s.toks + 1)).length; rw [this]; have := put_length fs name v; omega) fun h' F' N' => h h' ?_ ?_ ?_)
  · have x : Ext [L, d] s.heap h' := fun b o e n => (N' (b, o) (List.mem_cons_of_mem _ (mem_others.mpr ⟨e, fun q => n (q ▸ .head _), fun q => n (q ▸ .tail _ (.head _))⟩))).1
    refine ⟨F'.ns, fun b o e => x b o (F.keep b o e) fun m => ?_, F.above⟩
    rcases List.mem_cons.mp m with rfl | m
    · exact absurd (Heap.lt_size e) (Nat.not_lt.mpr F.above)
    · rcases List.mem_cons.mp m with rfl | m
      · rw [hzd] at e; cases e
      · cases m
  · exact fun b o e n => (N' (b, o) (List.mem_cons_of_mem _ (mem_others.mpr ⟨e, fun q => n (q ▸ .head _), fun q => n (q ▸ .tail _ (.head _))⟩))).1
  · exact ⟨a1, a2, (N' (r, _) (List.mem_cons_of_mem _ (mem_others.mpr ⟨a3, hLr, hrd⟩))).1, _, _, (N' (d, _) (.head _)).1, H.put name v _ _⟩
end
@[elab_as_elim] theorem one_mem {α : Type} {P : α → Prop} {a y : α} (m : y ∈ [a]) (h : P a) : P y := by
  rcases List.mem_cons.mp m with rfl | m
  · exact h
  · cases m
theorem nil_mem {α : Type} {P : α → Prop} : ∀ y ∈ ([] : List α), P y := fun _ m => absurd m List.not_mem_nil
theorem nil_not {α : Type} {a : α} (m : a ∈ ([] : List α)) : False := List.not_mem_nil m
theorem szl {n : Nat} (h : Nat.ble n 16777216 = true) : n ≤ sizeLine := by rw [sizeLine_eq]; exact Nat.le_of_ble_eq_true h
theorem mono_q {α : Type} {M : Model} {A : Around} {t : Sem α} {Q' : α → Shared → Prop} {E : Value → Shared → Prop} {s : Shared} (Q : α → Shared → Prop) (h : wpAny M A t Q E s) (hQ : ∀ a s', Q a s' → Q' a s') : wpAny M A t Q' E s :=
  wpAny_mono h hQ fun _ _ x => x
theorem fs_LedgerError_init (w : World) (v0 v1 v2 : Value) : FnS w 37 "LedgerError.__init__" b_37 s_37 (.ref 36) [v0, v1, v2] [("self", v0), ("what", v1), ("at", v2)] :=
  ⟨⟨_, _, _, _, (show (K0 w.params).lookup 37 = some (o_37 w.params) by kernel_rfl), rfl, rfl, rfl, rfl, rfl, rfl, rfl, fun s X => BindsTo.of_defaults (T := 30) rfl (X _ _ (show (K0 w.params).lookup 30 = some (o_30 w.params) by kernel_rfl)) rfl rfl rfl⟩, by kernel_rfl, locs (by kernel_rfl), rfl, rfl, rfl, by decide⟩
theorem fs_LedgerError_init_d (w : World) (v0 v1 : Value) : FnS w 37 "LedgerError.__init__" b_37 s_37 (.ref 36) [v0, v1] [("self", v0), ("what", v1), ("at", (.ref 29))] :=
  ⟨⟨_, _, _, _, (show (K0 w.params).lookup 37 = some (o_37 w.params) by kernel_rfl), rfl, rfl, rfl, rfl, rfl, rfl, rfl, fun s X => BindsTo.of_defaults (T := 30) rfl (X _ _ (show (K0 w.params).lookup 30 = some (o_30 w.params) by kernel_rfl)) rfl rfl rfl⟩, by kernel_rfl, locs (by kernel_rfl), rfl, rfl, rfl, by decide⟩
theorem fs_FileSpec_init (w : World) (v0 v1 : Value) : FnS w 78 "FileSpec.__init__" b_78 s_78 (.ref 77) [v0, v1] [("self", v0), ("name", v1)] :=
  ⟨⟨_, _, _, _, (show (K0 w.params).lookup 78 = some (o_78 w.params) by kernel_rfl), rfl, rfl, rfl, rfl, rfl, rfl, rfl, fun s X => BindsTo.of_eq rfl⟩, by kernel_rfl, locs (by kernel_rfl), rfl, rfl, rfl, by decide⟩
theorem fs_FileSpec_told (w : World) (v0 : Value) : FnS w 85 "FileSpec.told" b_85 s_85 (.ref 84) [v0] [("self", v0)] :=
  ⟨⟨_, _, _, _, (show (K0 w.params).lookup 85 = some (o_85 w.params) by kernel_rfl), rfl, rfl, rfl, rfl, rfl, rfl, rfl, fun s X => BindsTo.of_eq rfl⟩, by kernel_rfl, locs (by kernel_rfl), rfl, rfl, rfl, by decide⟩
theorem fs_one_word (w : World) (v0 v1 : Value) : FnS w 99 "one_word" b_99 s_99 (.ref 98) [v0, v1] [("reader", v0), ("words", v1)] :=
  ⟨⟨_, _, _, _, (show (K0 w.params).lookup 99 = some (o_99 w.params) by kernel_rfl), rfl, rfl, rfl, rfl, rfl, rfl, rfl, fun s X => BindsTo.of_eq rfl⟩, by kernel_rfl, locs (by kernel_rfl), rfl, rfl, rfl, by decide⟩
theorem fs_read_assign (w : World) (v0 v1 : Value) : FnS w 106 "read_assign" b_106 s_106 (.ref 105) [v0, v1] [("reader", v0), ("spec", v1)] :=
  ⟨⟨_, _, _, _, (show (K0 w.params).lookup 106 = some (o_106 w.params) by kernel_rfl), rfl, rfl, rfl, rfl, rfl, rfl, rfl, fun s X => BindsTo.of_eq rfl⟩, by kernel_rfl, locs (by kernel_rfl), rfl, rfl, rfl, by decide⟩
theorem fs_read_record_key (w : World) (v0 v1 : Value) : FnS w 113 "read_record_key" b_113 s_113 (.ref 112) [v0, v1] [("reader", v0), ("spec", v1)] :=
  ⟨⟨_, _, _, _, (show (K0 w.params).lookup 113 = some (o_113 w.params) by kernel_rfl), rfl, rfl, rfl, rfl, rfl, rfl, rfl, fun s X => BindsTo.of_eq rfl⟩, by kernel_rfl, locs (by kernel_rfl), rfl, rfl, rfl, by decide⟩
theorem fs_read_alternate (w : World) (v0 v1 : Value) : FnS w 118 "read_alternate" b_118 s_118 (.ref 117) [v0, v1] [("reader", v0), ("spec", v1)] :=
  ⟨⟨_, _, _, _, (show (K0 w.params).lookup 118 = some (o_118 w.params) by kernel_rfl), rfl, rfl, rfl, rfl, rfl, rfl, rfl, fun s X => BindsTo.of_eq rfl⟩, by kernel_rfl, locs (by kernel_rfl), rfl, rfl, rfl, by decide⟩
theorem fs_read_relative (w : World) (v0 v1 : Value) : FnS w 125 "read_relative" b_125 s_125 (.ref 124) [v0, v1] [("reader", v0), ("spec", v1)] :=
  ⟨⟨_, _, _, _, (show (K0 w.params).lookup 125 = some (o_125 w.params) by kernel_rfl), rfl, rfl, rfl, rfl, rfl, rfl, rfl, fun s X => BindsTo.of_eq rfl⟩, by kernel_rfl, locs (by kernel_rfl), rfl, rfl, rfl, by decide⟩
theorem fs_read_clause (w : World) (v0 v1 : Value) : FnS w 132 "read_clause" b_132 s_132 (.ref 131) [v0, v1] [("reader", v0), ("spec", v1)] :=
  ⟨⟨_, _, _, _, (show (K0 w.params).lookup 132 = some (o_132 w.params) by kernel_rfl), rfl, rfl, rfl, rfl, rfl, rfl, rfl, fun s X => BindsTo.of_eq rfl⟩, by kernel_rfl, locs (by kernel_rfl), rfl, rfl, rfl, by decide⟩
theorem fs_is_whole_spec (w : World) (v0 : Value) : FnS w 139 "is_whole_spec" b_139 s_139 (.ref 138) [v0] [("spec", v0)] :=
  ⟨⟨_, _, _, _, (show (K0 w.params).lookup 139 = some (o_139 w.params) by kernel_rfl), rfl, rfl, rfl, rfl, rfl, rfl, rfl, fun s X => BindsTo.of_eq rfl⟩, by kernel_rfl, locs (by kernel_rfl), rfl, rfl, rfl, by decide⟩
theorem fs_read_select (w : World) (v0 : Value) : FnS w 146 "read_select" b_146 s_146 (.ref 145) [v0] [("reader", v0)] :=
  ⟨⟨_, _, _, _, (show (K0 w.params).lookup 146 = some (o_146 w.params) by kernel_rfl), rfl, rfl, rfl, rfl, rfl, rfl, rfl, fun s X => BindsTo.of_eq rfl⟩, by kernel_rfl, locs (by kernel_rfl), rfl, rfl, rfl, by decide⟩
theorem fs_is_behind (w : World) (v0 : Value) : FnS w 153 "is_behind" b_153 s_153 (.ref 152) [v0] [("reader", v0)] :=
  ⟨⟨_, _, _, _, (show (K0 w.params).lookup 153 = some (o_153 w.params) by kernel_rfl), rfl, rfl, rfl, rfl, rfl, rfl, rfl, fun s X => BindsTo.of_eq rfl⟩, by kernel_rfl, locs (by kernel_rfl), rfl, rfl, rfl, by decide⟩
theorem fs_pass_configuration (w : World) (v0 : Value) : FnS w 160 "pass_configuration" b_160 s_160 (.ref 159) [v0] [("reader", v0)] :=
  ⟨⟨_, _, _, _, (show (K0 w.params).lookup 160 = some (o_160 w.params) by kernel_rfl), rfl, rfl, rfl, rfl, rfl, rfl, rfl, fun s X => BindsTo.of_eq rfl⟩, by kernel_rfl, locs (by kernel_rfl), rfl, rfl, rfl, by decide⟩
theorem fs_read_environment (w : World) (v0 : Value) : FnS w 167 "read_environment" b_167 s_167 (.ref 166) [v0] [("reader", v0)] :=
  ⟨⟨_, _, _, _, (show (K0 w.params).lookup 167 = some (o_167 w.params) by kernel_rfl), rfl, rfl, rfl, rfl, rfl, rfl, rfl, fun s X => BindsTo.of_eq rfl⟩, by kernel_rfl, locs (by kernel_rfl), rfl, rfl, rfl, by decide⟩
theorem fs_is_reserved (w : World) (v0 : Value) : FnS w 174 "is_reserved" b_174 s_174 (.ref 173) [v0] [("word", v0)] :=
  ⟨⟨_, _, _, _, (show (K0 w.params).lookup 174 = some (o_174 w.params) by kernel_rfl), rfl, rfl, rfl, rfl, rfl, rfl, rfl, fun s X => BindsTo.of_eq rfl⟩, by kernel_rfl, locs (by kernel_rfl), rfl, rfl, rfl, by decide⟩
theorem fs_Reader_init (w : World) (v0 v1 v2 : Value) : FnS w 189 "Reader.__init__" b_189 s_189 (.ref 188) [v0, v1, v2] [("self", v0), ("tokens", v1), ("at", v2)] :=
  ⟨⟨_, _, _, _, (show (K0 w.params).lookup 189 = some (o_189 w.params) by kernel_rfl), rfl, rfl, rfl, rfl, rfl, rfl, rfl, fun s X => BindsTo.of_defaults (T := 182) rfl (X _ _ (show (K0 w.params).lookup 182 = some (o_182 w.params) by kernel_rfl)) rfl rfl rfl⟩, by kernel_rfl, locs (by kernel_rfl), rfl, rfl, rfl, by decide⟩
theorem fs_Reader_init_d (w : World) (v0 v1 : Value) : FnS w 189 "Reader.__init__" b_189 s_189 (.ref 188) [v0, v1] [("self", v0), ("tokens", v1), ("at", (.int 0 421))] :=
  ⟨⟨_, _, _, _, (show (K0 w.params).lookup 189 = some (o_189 w.params) by kernel_rfl), rfl, rfl, rfl, rfl, rfl, rfl, rfl, fun s X => BindsTo.of_defaults (T := 182) rfl (X _ _ (show (K0 w.params).lookup 182 = some (o_182 w.params) by kernel_rfl)) rfl rfl rfl⟩, by kernel_rfl, locs (by kernel_rfl), rfl, rfl, rfl, by decide⟩
theorem fs_Reader_peek (w : World) (v0 v1 : Value) : FnS w 197 "Reader.peek" b_197 s_197 (.ref 196) [v0, v1] [("self", v0), ("ahead", v1)] :=
  ⟨⟨_, _, _, _, (show (K0 w.params).lookup 197 = some (o_197 w.params) by kernel_rfl), rfl, rfl, rfl, rfl, rfl, rfl, rfl, fun s X => BindsTo.of_defaults (T := 190) rfl (X _ _ (show (K0 w.params).lookup 190 = some (o_190 w.params) by kernel_rfl)) rfl rfl rfl⟩, by kernel_rfl, locs (by kernel_rfl), rfl, rfl, rfl, by decide⟩
theorem fs_Reader_peek_d (w : World) (v0 : Value) : FnS w 197 "Reader.peek" b_197 s_197 (.ref 196) [v0] [("self", v0), ("ahead", (.int 0 431))] :=
  ⟨⟨_, _, _, _, (show (K0 w.params).lookup 197 = some (o_197 w.params) by kernel_rfl), rfl, rfl, rfl, rfl, rfl, rfl, rfl, fun s X => BindsTo.of_defaults (T := 190) rfl (X _ _ (show (K0 w.params).lookup 190 = some (o_190 w.params) by kernel_rfl)) rfl rfl rfl⟩, by kernel_rfl, locs (by kernel_rfl), rfl, rfl, rfl, by decide⟩
theorem fs_Reader_is_done (w : World) (v0 : Value) : FnS w 204 "Reader.is_done" b_204 s_204 (.ref 203) [v0] [("self", v0)] :=
  ⟨⟨_, _, _, _, (show (K0 w.params).lookup 204 = some (o_204 w.params) by kernel_rfl), rfl, rfl, rfl, rfl, rfl, rfl, rfl, fun s X => BindsTo.of_eq rfl⟩, by kernel_rfl, locs (by kernel_rfl), rfl, rfl, rfl, by decide⟩
theorem fs_Reader_fault (w : World) (v0 v1 : Value) : FnS w 211 "Reader.fault" b_211 s_211 (.ref 210) [v0, v1] [("self", v0), ("what", v1)] :=
  ⟨⟨_, _, _, _, (show (K0 w.params).lookup 211 = some (o_211 w.params) by kernel_rfl), rfl, rfl, rfl, rfl, rfl, rfl, rfl, fun s X => BindsTo.of_eq rfl⟩, by kernel_rfl, locs (by kernel_rfl), rfl, rfl, rfl, by decide⟩
theorem fs_Reader_take (w : World) (v0 : Value) : FnS w 218 "Reader.take" b_218 s_218 (.ref 217) [v0] [("self", v0)] :=
  ⟨⟨_, _, _, _, (show (K0 w.params).lookup 218 = some (o_218 w.params) by kernel_rfl), rfl, rfl, rfl, rfl, rfl, rfl, rfl, fun s X => BindsTo.of_eq rfl⟩, by kernel_rfl, locs (by kernel_rfl), rfl, rfl, rfl, by decide⟩
theorem fs_Reader_is_kind (w : World) (v0 v1 v2 : Value) : FnS w 226 "Reader.is_kind" b_226 s_226 (.ref 225) [v0, v1, v2] [("self", v0), ("kind", v1), ("ahead", v2)] :=
  ⟨⟨_, _, _, _, (show (K0 w.params).lookup 226 = some (o_226 w.params) by kernel_rfl), rfl, rfl, rfl, rfl, rfl, rfl, rfl, fun s X => BindsTo.of_defaults (T := 219) rfl (X _ _ (show (K0 w.params).lookup 219 = some (o_219 w.params) by kernel_rfl)) rfl rfl rfl⟩, by kernel_rfl, locs (by kernel_rfl), rfl, rfl, rfl, by decide⟩
theorem fs_Reader_is_kind_d (w : World) (v0 v1 : Value) : FnS w 226 "Reader.is_kind" b_226 s_226 (.ref 225) [v0, v1] [("self", v0), ("kind", v1), ("ahead", (.int 0 463))] :=
  ⟨⟨_, _, _, _, (show (K0 w.params).lookup 226 = some (o_226 w.params) by kernel_rfl), rfl, rfl, rfl, rfl, rfl, rfl, rfl, fun s X => BindsTo.of_defaults (T := 219) rfl (X _ _ (show (K0 w.params).lookup 219 = some (o_219 w.params) by kernel_rfl)) rfl rfl rfl⟩, by kernel_rfl, locs (by kernel_rfl), rfl, rfl, rfl, by decide⟩
theorem fs_Reader_is_word (w : World) (v0 v1 : Value) : FnS w 233 "Reader.is_word" b_233 s_233 (.ref 232) [v0, v1] [("self", v0), ("words", v1)] :=
  ⟨⟨_, _, _, _, (show (K0 w.params).lookup 233 = some (o_233 w.params) by kernel_rfl), rfl, rfl, rfl, rfl, rfl, rfl, rfl, fun s X => BindsTo.of_eq rfl⟩, by kernel_rfl, locs (by kernel_rfl), rfl, rfl, rfl, by decide⟩
theorem fs_Reader_skip (w : World) (v0 v1 : Value) : FnS w 240 "Reader.skip" b_240 s_240 (.ref 239) [v0, v1] [("self", v0), ("words", v1)] :=
  ⟨⟨_, _, _, _, (show (K0 w.params).lookup 240 = some (o_240 w.params) by kernel_rfl), rfl, rfl, rfl, rfl, rfl, rfl, rfl, fun s X => BindsTo.of_eq rfl⟩, by kernel_rfl, locs (by kernel_rfl), rfl, rfl, rfl, by decide⟩
theorem fs_Reader_need (w : World) (v0 v1 : Value) : FnS w 247 "Reader.need" b_247 s_247 (.ref 246) [v0, v1] [("self", v0), ("words", v1)] :=
  ⟨⟨_, _, _, _, (show (K0 w.params).lookup 247 = some (o_247 w.params) by kernel_rfl), rfl, rfl, rfl, rfl, rfl, rfl, rfl, fun s X => BindsTo.of_eq rfl⟩, by kernel_rfl, locs (by kernel_rfl), rfl, rfl, rfl, by decide⟩
theorem fs_Reader_word (w : World) (v0 : Value) : FnS w 261 "Reader.word" b_261 s_261 (.ref 260) [v0] [("self", v0)] :=
  ⟨⟨_, _, _, _, (show (K0 w.params).lookup 261 = some (o_261 w.params) by kernel_rfl), rfl, rfl, rfl, rfl, rfl, rfl, rfl, fun s X => BindsTo.of_eq rfl⟩, by kernel_rfl, locs (by kernel_rfl), rfl, rfl, rfl, by decide⟩
theorem fs_Reader_is_name (w : World) (v0 v1 : Value) : FnS w 269 "Reader.is_name" b_269 s_269 (.ref 268) [v0, v1] [("self", v0), ("ahead", v1)] :=
  ⟨⟨_, _, _, _, (show (K0 w.params).lookup 269 = some (o_269 w.params) by kernel_rfl), rfl, rfl, rfl, rfl, rfl, rfl, rfl, fun s X => BindsTo.of_defaults (T := 262) rfl (X _ _ (show (K0 w.params).lookup 262 = some (o_262 w.params) by kernel_rfl)) rfl rfl rfl⟩, by kernel_rfl, locs (by kernel_rfl), rfl, rfl, rfl, by decide⟩
theorem fs_Reader_is_name_d (w : World) (v0 : Value) : FnS w 269 "Reader.is_name" b_269 s_269 (.ref 268) [v0] [("self", v0), ("ahead", (.int 0 515))] :=
  ⟨⟨_, _, _, _, (show (K0 w.params).lookup 269 = some (o_269 w.params) by kernel_rfl), rfl, rfl, rfl, rfl, rfl, rfl, rfl, fun s X => BindsTo.of_defaults (T := 262) rfl (X _ _ (show (K0 w.params).lookup 262 = some (o_262 w.params) by kernel_rfl)) rfl rfl rfl⟩, by kernel_rfl, locs (by kernel_rfl), rfl, rfl, rfl, by decide⟩
theorem fs_Reader_name (w : World) (v0 : Value) : FnS w 276 "Reader.name" b_276 s_276 (.ref 275) [v0] [("self", v0)] :=
  ⟨⟨_, _, _, _, (show (K0 w.params).lookup 276 = some (o_276 w.params) by kernel_rfl), rfl, rfl, rfl, rfl, rfl, rfl, rfl, fun s X => BindsTo.of_eq rfl⟩, by kernel_rfl, locs (by kernel_rfl), rfl, rfl, rfl, by decide⟩
theorem fs_Reader_is_sign (w : World) (v0 v1 v2 : Value) : FnS w 291 "Reader.is_sign" b_291 s_291 (.ref 290) [v0, v1, v2] [("self", v0), ("sign", v1), ("ahead", v2)] :=
  ⟨⟨_, _, _, _, (show (K0 w.params).lookup 291 = some (o_291 w.params) by kernel_rfl), rfl, rfl, rfl, rfl, rfl, rfl, rfl, fun s X => BindsTo.of_defaults (T := 284) rfl (X _ _ (show (K0 w.params).lookup 284 = some (o_284 w.params) by kernel_rfl)) rfl rfl rfl⟩, by kernel_rfl, locs (by kernel_rfl), rfl, rfl, rfl, by decide⟩
theorem fs_Reader_is_sign_d (w : World) (v0 v1 : Value) : FnS w 291 "Reader.is_sign" b_291 s_291 (.ref 290) [v0, v1] [("self", v0), ("sign", v1), ("ahead", (.int 0 539))] :=
  ⟨⟨_, _, _, _, (show (K0 w.params).lookup 291 = some (o_291 w.params) by kernel_rfl), rfl, rfl, rfl, rfl, rfl, rfl, rfl, fun s X => BindsTo.of_defaults (T := 284) rfl (X _ _ (show (K0 w.params).lookup 284 = some (o_284 w.params) by kernel_rfl)) rfl rfl rfl⟩, by kernel_rfl, locs (by kernel_rfl), rfl, rfl, rfl, by decide⟩
theorem fs_Reader_skip_sign (w : World) (v0 v1 : Value) : FnS w 298 "Reader.skip_sign" b_298 s_298 (.ref 297) [v0, v1] [("self", v0), ("sign", v1)] :=
  ⟨⟨_, _, _, _, (show (K0 w.params).lookup 298 = some (o_298 w.params) by kernel_rfl), rfl, rfl, rfl, rfl, rfl, rfl, rfl, fun s X => BindsTo.of_eq rfl⟩, by kernel_rfl, locs (by kernel_rfl), rfl, rfl, rfl, by decide⟩
theorem fs_Reader_need_sign (w : World) (v0 v1 : Value) : FnS w 305 "Reader.need_sign" b_305 s_305 (.ref 304) [v0, v1] [("self", v0), ("sign", v1)] :=
  ⟨⟨_, _, _, _, (show (K0 w.params).lookup 305 = some (o_305 w.params) by kernel_rfl), rfl, rfl, rfl, rfl, rfl, rfl, rfl, fun s X => BindsTo.of_eq rfl⟩, by kernel_rfl, locs (by kernel_rfl), rfl, rfl, rfl, by decide⟩
theorem fs_Reader_literal (w : World) (v0 : Value) : FnS w 333 "Reader.literal" b_333 s_333 (.ref 332) [v0] [("self", v0)] :=
  ⟨⟨_, _, _, _, (show (K0 w.params).lookup 333 = some (o_333 w.params) by kernel_rfl), rfl, rfl, rfl, rfl, rfl, rfl, rfl, fun s X => BindsTo.of_eq rfl⟩, by kernel_rfl, locs (by kernel_rfl), rfl, rfl, rfl, by decide⟩
theorem fs_Token_init (w : World) (v0 v1 v2 v3 v4 : Value) : FnS w 363 "Token.__init__" b_363 s_363 (.ref 362) [v0, v1, v2, v3, v4] [("self", v0), ("kind", v1), ("worth", v2), ("at", v3), ("is_in_a", v4)] :=
  ⟨⟨_, _, _, _, (show (K0 w.params).lookup 363 = some (o_363 w.params) by kernel_rfl), rfl, rfl, rfl, rfl, rfl, rfl, rfl, fun s X => BindsTo.of_defaults (T := 356) rfl (X _ _ (show (K0 w.params).lookup 356 = some (o_356 w.params) by kernel_rfl)) rfl rfl rfl⟩, by kernel_rfl, locs (by kernel_rfl), rfl, rfl, rfl, by decide⟩
theorem fs_Token_init_d (w : World) (v0 v1 v2 : Value) : FnS w 363 "Token.__init__" b_363 s_363 (.ref 362) [v0, v1, v2] [("self", v0), ("kind", v1), ("worth", v2), ("at", (.ref 355)), ("is_in_a", (.bool false))] :=
  ⟨⟨_, _, _, _, (show (K0 w.params).lookup 363 = some (o_363 w.params) by kernel_rfl), rfl, rfl, rfl, rfl, rfl, rfl, rfl, fun s X => BindsTo.of_defaults (T := 356) rfl (X _ _ (show (K0 w.params).lookup 356 = some (o_356 w.params) by kernel_rfl)) rfl rfl rfl⟩, by kernel_rfl, locs (by kernel_rfl), rfl, rfl, rfl, by decide⟩
theorem fs__law_draw (w : World) (v0 v1 : Value) : FnS w 384 "_law_draw" b_384 s_384 (.ref 383) [v0, v1] [("tape", v0), ("many", v1)] :=
  ⟨⟨_, _, _, _, (show (K0 w.params).lookup 384 = some (o_384 w.params) by kernel_rfl), rfl, rfl, rfl, rfl, rfl, rfl, rfl, fun s X => BindsTo.of_eq rfl⟩, by kernel_rfl, locs (by kernel_rfl), rfl, rfl, rfl, by decide⟩
theorem fs__law_tokens (w : World) (v0 : Value) : FnS w 391 "_law_tokens" b_391 s_391 (.ref 390) [v0] [("text", v0)] :=
  ⟨⟨_, _, _, _, (show (K0 w.params).lookup 391 = some (o_391 w.params) by kernel_rfl), rfl, rfl, rfl, rfl, rfl, rfl, rfl, fun s X => BindsTo.of_eq rfl⟩, by kernel_rfl, locs (by kernel_rfl), rfl, rfl, rfl, by decide⟩
theorem fs__law_select (w : World) (v0 v1 : Value) : FnS w 396 "_law_select" b_396 s_396 (.ref 395) [v0, v1] [("tape", v0), ("name", v1)] :=
  ⟨⟨_, _, _, _, (show (K0 w.params).lookup 396 = some (o_396 w.params) by kernel_rfl), rfl, rfl, rfl, rfl, rfl, rfl, rfl, fun s X => BindsTo.of_eq rfl⟩, by kernel_rfl, locs (by kernel_rfl), rfl, rfl, rfl, by decide⟩
theorem fs__law_refused (w : World) (v0 : Value) : FnS w 403 "_law_refused" b_403 s_403 (.ref 402) [v0] [("text", v0)] :=
  ⟨⟨_, _, _, _, (show (K0 w.params).lookup 403 = some (o_403 w.params) by kernel_rfl), rfl, rfl, rfl, rfl, rfl, rfl, rfl, fun s X => BindsTo.of_eq rfl⟩, by kernel_rfl, locs (by kernel_rfl), rfl, rfl, rfl, by decide⟩
theorem as_Reader_tokens (w : World) : AttrS w 343 "tokens" := ⟨by kernel_rfl, by kernel_rfl, _, (show findIn (K0 w.params) (.ref 343) "tokens" = some none by kernel_rfl), rfl⟩
theorem ss_Reader_tokens (w : World) : SetS w 343 "tokens" := ⟨by kernel_rfl, by kernel_rfl, by kernel_rfl, by kernel_rfl⟩
theorem as_Reader_at (w : World) : AttrS w 343 "at" := ⟨by kernel_rfl, by kernel_rfl, _, (show findIn (K0 w.params) (.ref 343) "at" = some none by kernel_rfl), rfl⟩
theorem ss_Reader_at (w : World) : SetS w 343 "at" := ⟨by kernel_rfl, by kernel_rfl, by kernel_rfl, by kernel_rfl⟩
theorem as_Reader_named (w : World) : AttrS w 343 "named" := ⟨by kernel_rfl, by kernel_rfl, _, (show findIn (K0 w.params) (.ref 343) "named" = some none by kernel_rfl), rfl⟩
theorem ss_Reader_named (w : World) : SetS w 343 "named" := ⟨by kernel_rfl, by kernel_rfl, by kernel_rfl, by kernel_rfl⟩
theorem as_FileSpec_name (w : World) : AttrS w 88 "name" := ⟨by kernel_rfl, by kernel_rfl, _, (show findIn (K0 w.params) (.ref 88) "name" = some none by kernel_rfl), rfl⟩
theorem ss_FileSpec_name (w : World) : SetS w 88 "name" := ⟨by kernel_rfl, by kernel_rfl, by kernel_rfl, by kernel_rfl⟩
theorem as_FileSpec_path (w : World) : AttrS w 88 "path" := ⟨by kernel_rfl, by kernel_rfl, _, (show findIn (K0 w.params) (.ref 88) "path" = some none by kernel_rfl), rfl⟩
theorem ss_FileSpec_path (w : World) : SetS w 88 "path" := ⟨by kernel_rfl, by kernel_rfl, by kernel_rfl, by kernel_rfl⟩
theorem as_FileSpec_organization (w : World) : AttrS w 88 "organization" := ⟨by kernel_rfl, by kernel_rfl, _, (show findIn (K0 w.params) (.ref 88) "organization" = some none by kernel_rfl), rfl⟩
theorem ss_FileSpec_organization (w : World) : SetS w 88 "organization" := ⟨by kernel_rfl, by kernel_rfl, by kernel_rfl, by kernel_rfl⟩
theorem as_FileSpec_access (w : World) : AttrS w 88 "access" := ⟨by kernel_rfl, by kernel_rfl, _, (show findIn (K0 w.params) (.ref 88) "access" = some none by kernel_rfl), rfl⟩
theorem ss_FileSpec_access (w : World) : SetS w 88 "access" := ⟨by kernel_rfl, by kernel_rfl, by kernel_rfl, by kernel_rfl⟩
theorem as_FileSpec_key (w : World) : AttrS w 88 "key" := ⟨by kernel_rfl, by kernel_rfl, _, (show findIn (K0 w.params) (.ref 88) "key" = some none by kernel_rfl), rfl⟩
theorem ss_FileSpec_key (w : World) : SetS w 88 "key" := ⟨by kernel_rfl, by kernel_rfl, by kernel_rfl, by kernel_rfl⟩
theorem as_FileSpec_alternates (w : World) : AttrS w 88 "alternates" := ⟨by kernel_rfl, by kernel_rfl, _, (show findIn (K0 w.params) (.ref 88) "alternates" = some none by kernel_rfl), rfl⟩
theorem ss_FileSpec_alternates (w : World) : SetS w 88 "alternates" := ⟨by kernel_rfl, by kernel_rfl, by kernel_rfl, by kernel_rfl⟩
theorem as_FileSpec_relative_key (w : World) : AttrS w 88 "relative_key" := ⟨by kernel_rfl, by kernel_rfl, _, (show findIn (K0 w.params) (.ref 88) "relative_key" = some none by kernel_rfl), rfl⟩
theorem ss_FileSpec_relative_key (w : World) : SetS w 88 "relative_key" := ⟨by kernel_rfl, by kernel_rfl, by kernel_rfl, by kernel_rfl⟩
theorem as_FileSpec_status (w : World) : AttrS w 88 "status" := ⟨by kernel_rfl, by kernel_rfl, _, (show findIn (K0 w.params) (.ref 88) "status" = some none by kernel_rfl), rfl⟩
theorem ss_FileSpec_status (w : World) : SetS w 88 "status" := ⟨by kernel_rfl, by kernel_rfl, by kernel_rfl, by kernel_rfl⟩
theorem as_FileSpec_is_sort (w : World) : AttrS w 88 "is_sort" := ⟨by kernel_rfl, by kernel_rfl, _, (show findIn (K0 w.params) (.ref 88) "is_sort" = some none by kernel_rfl), rfl⟩
theorem ss_FileSpec_is_sort (w : World) : SetS w 88 "is_sort" := ⟨by kernel_rfl, by kernel_rfl, by kernel_rfl, by kernel_rfl⟩
theorem as_FileSpec_records (w : World) : AttrS w 88 "records" := ⟨by kernel_rfl, by kernel_rfl, _, (show findIn (K0 w.params) (.ref 88) "records" = some none by kernel_rfl), rfl⟩
theorem ss_FileSpec_records (w : World) : SetS w 88 "records" := ⟨by kernel_rfl, by kernel_rfl, by kernel_rfl, by kernel_rfl⟩
theorem as_Token_kind (w : World) : AttrS w 373 "kind" := ⟨by kernel_rfl, by kernel_rfl, _, (show findIn (K0 w.params) (.ref 373) "kind" = some none by kernel_rfl), rfl⟩
theorem ss_Token_kind (w : World) : SetS w 373 "kind" := ⟨by kernel_rfl, by kernel_rfl, by kernel_rfl, by kernel_rfl⟩
theorem as_Token_worth (w : World) : AttrS w 373 "worth" := ⟨by kernel_rfl, by kernel_rfl, _, (show findIn (K0 w.params) (.ref 373) "worth" = some none by kernel_rfl), rfl⟩
theorem ss_Token_worth (w : World) : SetS w 373 "worth" := ⟨by kernel_rfl, by kernel_rfl, by kernel_rfl, by kernel_rfl⟩
theorem as_Token_at (w : World) : AttrS w 373 "at" := ⟨by kernel_rfl, by kernel_rfl, _, (show findIn (K0 w.params) (.ref 373) "at" = some none by kernel_rfl), rfl⟩
theorem ss_Token_at (w : World) : SetS w 373 "at" := ⟨by kernel_rfl, by kernel_rfl, by kernel_rfl, by kernel_rfl⟩
theorem as_Token_is_in_a (w : World) : AttrS w 373 "is_in_a" := ⟨by kernel_rfl, by kernel_rfl, _, (show findIn (K0 w.params) (.ref 373) "is_in_a" = some none by kernel_rfl), rfl⟩
theorem ss_Token_is_in_a (w : World) : SetS w 373 "is_in_a" := ⟨by kernel_rfl, by kernel_rfl, by kernel_rfl, by kernel_rfl⟩
theorem ms_FileSpec_told (w : World) : MethS w 88 "told" 85 := ⟨by kernel_rfl, by kernel_rfl, by kernel_rfl, by kernel_rfl⟩
theorem ms_Reader_peek (w : World) : MethS w 343 "peek" 197 := ⟨by kernel_rfl, by kernel_rfl, by kernel_rfl, by kernel_rfl⟩
theorem ms_Reader_is_done (w : World) : MethS w 343 "is_done" 204 := ⟨by kernel_rfl, by kernel_rfl, by kernel_rfl, by kernel_rfl⟩
theorem ms_Reader_fault (w : World) : MethS w 343 "fault" 211 := ⟨by kernel_rfl, by kernel_rfl, by kernel_rfl, by kernel_rfl⟩
theorem ms_Reader_take (w : World) : MethS w 343 "take" 218 := ⟨by kernel_rfl, by kernel_rfl, by kernel_rfl, by kernel_rfl⟩
theorem ms_Reader_is_kind (w : World) : MethS w 343 "is_kind" 226 := ⟨by kernel_rfl, by kernel_rfl, by kernel_rfl, by kernel_rfl⟩
theorem ms_Reader_is_word (w : World) : MethS w 343 "is_word" 233 := ⟨by kernel_rfl, by kernel_rfl, by kernel_rfl, by kernel_rfl⟩
theorem ms_Reader_skip (w : World) : MethS w 343 "skip" 240 := ⟨by kernel_rfl, by kernel_rfl, by kernel_rfl, by kernel_rfl⟩
theorem ms_Reader_need (w : World) : MethS w 343 "need" 247 := ⟨by kernel_rfl, by kernel_rfl, by kernel_rfl, by kernel_rfl⟩
theorem ms_Reader_word (w : World) : MethS w 343 "word" 261 := ⟨by kernel_rfl, by kernel_rfl, by kernel_rfl, by kernel_rfl⟩
theorem ms_Reader_is_name (w : World) : MethS w 343 "is_name" 269 := ⟨by kernel_rfl, by kernel_rfl, by kernel_rfl, by kernel_rfl⟩
theorem ms_Reader_name (w : World) : MethS w 343 "name" 276 := ⟨by kernel_rfl, by kernel_rfl, by kernel_rfl, by kernel_rfl⟩
theorem ms_Reader_is_sign (w : World) : MethS w 343 "is_sign" 291 := ⟨by kernel_rfl, by kernel_rfl, by kernel_rfl, by kernel_rfl⟩
theorem ms_Reader_skip_sign (w : World) : MethS w 343 "skip_sign" 298 := ⟨by kernel_rfl, by kernel_rfl, by kernel_rfl, by kernel_rfl⟩
theorem ms_Reader_need_sign (w : World) : MethS w 343 "need_sign" 305 := ⟨by kernel_rfl, by kernel_rfl, by kernel_rfl, by kernel_rfl⟩
theorem ms_Reader_literal (w : World) : MethS w 343 "literal" 333 := ⟨by kernel_rfl, by kernel_rfl, by kernel_rfl, by kernel_rfl⟩
theorem kp_one_word (w : World) : keepIn (Kw w) (.ref 99) = true := by kernel_rfl
theorem gl_one_word (w : World) : nsIn (Kw w) mainGlobals "one_word" = some (some (.ref 99)) := by kernel_rfl
theorem kp_read_assign (w : World) : keepIn (Kw w) (.ref 106) = true := by kernel_rfl
theorem gl_read_assign (w : World) : nsIn (Kw w) mainGlobals "read_assign" = some (some (.ref 106)) := by kernel_rfl
theorem kp_read_record_key (w : World) : keepIn (Kw w) (.ref 113) = true := by kernel_rfl
theorem gl_read_record_key (w : World) : nsIn (Kw w) mainGlobals "read_record_key" = some (some (.ref 113)) := by kernel_rfl
theorem kp_read_alternate (w : World) : keepIn (Kw w) (.ref 118) = true := by kernel_rfl
theorem gl_read_alternate (w : World) : nsIn (Kw w) mainGlobals "read_alternate" = some (some (.ref 118)) := by kernel_rfl
theorem kp_read_relative (w : World) : keepIn (Kw w) (.ref 125) = true := by kernel_rfl
theorem gl_read_relative (w : World) : nsIn (Kw w) mainGlobals "read_relative" = some (some (.ref 125)) := by kernel_rfl
theorem kp_read_clause (w : World) : keepIn (Kw w) (.ref 132) = true := by kernel_rfl
theorem gl_read_clause (w : World) : nsIn (Kw w) mainGlobals "read_clause" = some (some (.ref 132)) := by kernel_rfl
theorem kp_is_whole_spec (w : World) : keepIn (Kw w) (.ref 139) = true := by kernel_rfl
theorem gl_is_whole_spec (w : World) : nsIn (Kw w) mainGlobals "is_whole_spec" = some (some (.ref 139)) := by kernel_rfl
theorem kp_read_select (w : World) : keepIn (Kw w) (.ref 146) = true := by kernel_rfl
theorem gl_read_select (w : World) : nsIn (Kw w) mainGlobals "read_select" = some (some (.ref 146)) := by kernel_rfl
theorem kp_is_behind (w : World) : keepIn (Kw w) (.ref 153) = true := by kernel_rfl
theorem gl_is_behind (w : World) : nsIn (Kw w) mainGlobals "is_behind" = some (some (.ref 153)) := by kernel_rfl
theorem kp_pass_configuration (w : World) : keepIn (Kw w) (.ref 160) = true := by kernel_rfl
theorem gl_pass_configuration (w : World) : nsIn (Kw w) mainGlobals "pass_configuration" = some (some (.ref 160)) := by kernel_rfl
theorem kp_read_environment (w : World) : keepIn (Kw w) (.ref 167) = true := by kernel_rfl
theorem gl_read_environment (w : World) : nsIn (Kw w) mainGlobals "read_environment" = some (some (.ref 167)) := by kernel_rfl
theorem kp_is_reserved (w : World) : keepIn (Kw w) (.ref 174) = true := by kernel_rfl
theorem gl_is_reserved (w : World) : nsIn (Kw w) mainGlobals "is_reserved" = some (some (.ref 174)) := by kernel_rfl
theorem kp__law_draw (w : World) : keepIn (Kw w) (.ref 384) = true := by kernel_rfl
theorem gl__law_draw (w : World) : nsIn (Kw w) mainGlobals "_law_draw" = some (some (.ref 384)) := by kernel_rfl
theorem kp__law_tokens (w : World) : keepIn (Kw w) (.ref 391) = true := by kernel_rfl
theorem gl__law_tokens (w : World) : nsIn (Kw w) mainGlobals "_law_tokens" = some (some (.ref 391)) := by kernel_rfl
theorem kp__law_select (w : World) : keepIn (Kw w) (.ref 396) = true := by kernel_rfl
theorem gl__law_select (w : World) : nsIn (Kw w) mainGlobals "_law_select" = some (some (.ref 396)) := by kernel_rfl
theorem kp__law_refused (w : World) : keepIn (Kw w) (.ref 403) = true := by kernel_rfl
theorem gl__law_refused (w : World) : nsIn (Kw w) mainGlobals "_law_refused" = some (some (.ref 403)) := by kernel_rfl
theorem gl_Reader (w : World) : nsIn (Kw w) mainGlobals "Reader" = some (some (.ref 343)) := by kernel_rfl
theorem gl_FileSpec (w : World) : nsIn (Kw w) mainGlobals "FileSpec" = some (some (.ref 88)) := by kernel_rfl
theorem gl_Token (w : World) : nsIn (Kw w) mainGlobals "Token" = some (some (.ref 373)) := by kernel_rfl
theorem gl_GrammarFault (w : World) : nsIn (Kw w) mainGlobals "GrammarFault" = some (some (.ref 60)) := by kernel_rfl
theorem gl_ORGANIZATIONS (w : World) : nsIn (Kw w) mainGlobals "ORGANIZATIONS" = some (some (.ref 63)) := by kernel_rfl
theorem gl_ACCESSES (w : World) : nsIn (Kw w) mainGlobals "ACCESSES" = some (some (.ref 64)) := by kernel_rfl
theorem gn_len (w : World) : nsIn (Kw w) mainGlobals "len" = some none := by kernel_rfl
theorem gn_min (w : World) : nsIn (Kw w) mainGlobals "min" = some none := by kernel_rfl
theorem gn_list (w : World) : nsIn (Kw w) mainGlobals "list" = some none := by kernel_rfl
theorem gn_range (w : World) : nsIn (Kw w) mainGlobals "range" = some none := by kernel_rfl
theorem gn_str (w : World) : nsIn (Kw w) mainGlobals "str" = some none := by kernel_rfl
theorem gn_tuple (w : World) : nsIn (Kw w) mainGlobals "tuple" = some none := by kernel_rfl
theorem gn_Exception (w : World) : nsIn (Kw w) mainGlobals "Exception" = some none := by kernel_rfl
local macro_rules | `(tactic| walk_at "LK") => `(tactic| first | assumption | exact look_here _ _ _ | (apply look_there (n := ?_); walk_at "LK"; decide +kernel))
local macro_rules | `(tactic| walk_at "LOC") => `(tactic| exact ⟨by rfl, by kernel_rfl, by decide +kernel⟩)
local macro_rules | `(tactic| walk_at "OK") => `(tactic| first | assumption | exact Ok.le (by assumption) (by omega))
local macro_rules | `(tactic| walk_at "SM") => `(tactic| exact ⟨rfl⟩)
local macro_rules | `(tactic| walk_at "DD") => `(tactic| first | exact .inl (.head _) | exact .inl (.tail _ (.head _)) | assumption)
local macro_rules | `(tactic| walk_at "SUB") => `(tactic| first | exact fun _ m => .inl m | exact nil_mem | exact fun _ m => one_mem m (by first | exact .inl (.head _) | exact .inl (.tail _ (.head _)) | exact .inr (by assumption)))
/-- room for n more calls, and nothing handled -/
structure Ok (A : Around) (n : Nat) : Prop where
  hd : A.handled = none
  dp : A.depth + n < recursionLimit
  un : A.units + 10 * n < cLine
theorem Ok.deeper {A : Around} {n : Nat} (o : Ok A (n + 1)) (env : Env) : Ok (A.deeper env) n :=
  ⟨o.hd, by have := o.dp; rw [depth_deeper]; omega, by have := o.un; rw [units_deeper]; omega⟩
theorem Ok.le {A : Around} {n m : Nat} (o : Ok A n) (h : m ≤ n) : Ok A m := ⟨o.hd, by have := o.dp; omega, by have := o.un; omega⟩

structure Same (s s' : Shared) : Prop where
  eq : s' = { s with heap := s'.heap, toks := s'.toks }
@[reducible] noncomputable def St (s : Shared) (h : Heap) (t : Tok) : Shared := { s with heap := h, toks := t }
theorem Same.st {s s₁ : Shared} (S : Same s s₁) (h : Heap) (t : Tok) : { s₁ with heap := h, toks := t } = St s h t := by rw [S.eq]
theorem Same.is {s s₁ : Shared} (S : Same s s₁) : s₁ = St s s₁.heap s₁.toks := S.eq
/-- a call of the text's def f: it ends, gives a value, and leaves all but D as it was -/
noncomputable def Calls (w : World) (n : Nat) (f : Addr) (args : List Value) (D : List Addr) (h : Heap) (post : Value → Heap → Prop) : Prop :=
  ∀ (A : Around) (s : Shared) (R : Result → Shared → Prop), s.heap = h → Ok A n →
    (∀ v h' tk', Ext D h h' → post v h' → R (.ok (.ret v)) { s with heap := h', toks := tk' }) → codeAny (Mw w) A (.call (.ref f) ⟨args, []⟩) R s
/-- what stands in the body of a def: D may change, L is the frame, h0 the heap at the call -/
structure Bd (w : World) (D : List Addr) (σ : Shared) (h0 : Heap) (L : Addr) (hz h : Heap) (ls : List (Str × Value)) : Prop where
  G : G1 w hz
  F : Fr hz L h (look ls)
  x : Ext D h0 h
  L0 : L = h0.objs.size
  dn : ∀ d ∈ D, hz.get? d = none ∧ d < L
  hz : hz = hideAll h0 D
noncomputable def Post (D : List Addr) (h0 : Heap) (s : Shared) (post : Value → Heap → Prop) : Flow → Shared → Prop := fun fl s' => Ext D h0 s'.heap ∧ post (retOf fl) s'.heap ∧ Same s s'
theorem Calls.mk {w : World} {n : Nat} {f : Addr} {qual : Str} {body : List Stmt} {scope : Scope} {cdv : Value} {args : List Value} {binds ls : List (Str × Value)} {D : List Addr} {h : Heap} {post : Value → Heap → Prop}
    (S : FnS w f qual body scope cdv args binds) (G : G1 w h) (hD : ∀ d ∈ D, 409 ≤ d ∧ d < h.objs.size)
    (H : ∀ (A : Around) (s : Shared) (g : Heap) (tg : Tok) (hz : Heap) (L : Addr) (E : Value → Shared → Prop), Ok A n → Bd w D s h L hz g ls → Ext [] h g →
      wpAny (Mw w) A (execs body (envOf qual scope L f cdv)) (Post D h s post) E (St s g tg)) (hl : ls = binds.reverse := by rfl) : Calls w (n + 1) f args D h post := by
  intro A s R hs ok kk
  subst hs hl
  refine enter D S G (fun d m => (hD d m).1) (by have := ok.dp; omega) fun hz L h₁ ez Gz F x eL hn => ?_
  refine wpAny_mono (H _ s h₁ (s.toks + binds.length) hz L _ (ok.deeper _) ⟨Gz, F, x.nil, eL, fun d m => ⟨hn d m, eL ▸ (hD d m).2⟩, ez⟩ x) (fun fl s' q => ?_) fun _ _ x => x
  obtain ⟨a, b, c⟩ := q
  rw [c.eq]
  exact kk _ _ _ a b
theorem Bd.keep {w D σ h0 L hz h ls} (B : Bd w D σ h0 L hz h ls) : ∀ b o, hz.get? b = some o → h.get? b = some o := B.F.keep
theorem Bd.use {w : World} {D D' : List Addr} {h0 hz : Heap} {L f : Addr} {ls : List (Str × Value)} {n : Nat} {args : List Value} {post : Value → Heap → Prop} {A : Around} {s σ : Shared} {Q E : Value → Shared → Prop}
    (B : Bd w D σ h0 L hz s.heap ls) (C : Calls w n f args D' s.heap post)
    (h : ∀ v h' tk', Bd w D σ h0 L hz h' ls → Ext D' s.heap h' → post v h' → Q v (St σ h' tk'))
    (S : Same σ s := by walk_at "SM") (ok : Ok A n := by walk_at "OK") (hs : ∀ d ∈ D', d ∈ D ∨ L < d := by walk_at "SUB") : wpAny (Mw w) A (call (.ref f) args) Q E s := by
  refine wpAny_call (C A s _ rfl ok fun v h' tk' x p => S.st h' tk' ▸ h v h' tk' ?_ x p)
  have hL : L ∉ D' := fun m => by
    rcases hs L m with m | m
    · exact Nat.lt_irrefl _ (B.dn L m).2
    · exact Nat.lt_irrefl _ m
  refine ⟨B.G, fr_ext B.F x hL fun d m => ?_, fun b o e n => x b o (B.x b o e n) fun m => ?_, B.L0, B.dn, B.hz⟩
  · rcases hs d m with m | m
    · exact (B.dn d m).1
    · have : hz.objs.size ≤ d := by rw [B.hz, hideAll_size, ← B.L0]; exact Nat.le_of_lt m
      cases e : hz.get? d with
      | none => rfl
      | some o => exact absurd (Heap.lt_size e) (Nat.not_lt.mpr this)
  · rcases hs b m with m | m
    · exact n m
    · have := Heap.lt_size e
      rw [← B.L0] at this
      exact absurd m (Nat.not_lt.mpr (Nat.le_of_lt this))
theorem Bd.push {w D σ h0 L hz h ls} (B : Bd w D σ h0 L hz h ls) (o : Obj) : Bd w D σ h0 L hz (h.push o) ls :=
  ⟨B.G, fr_ext B.F (D := []) (Ext.push h o) nil_not nil_mem, B.x.trans (Ext.push h o).nil, B.L0, B.dn, B.hz⟩
/-- a heap that differs at the frame, at D, or above -/
theorem Bd.step {w D σ h0 L hz h h' ls ls'} (B : Bd w D σ h0 L hz h ls) (F : Fr hz L h' (look ls')) {D' : List Addr} (x : Ext D' h h') (hs : ∀ d ∈ D', d ∈ D ∨ L ≤ d) : Bd w D σ h0 L hz h' ls' := by
  refine ⟨B.G, F, fun b o e n => x b o (B.x b o e n) fun m => ?_, B.L0, B.dn, B.hz⟩
  rcases hs b m with m | m
  · exact n m
  · have := Heap.lt_size e
    rw [← B.L0] at this
    exact absurd m (Nat.not_le.mpr this)

section
variable {w : World} {A : Around} {E : Value → Shared → Prop} {s σ : Shared} {hz h0 : Heap} {L f : Addr} {D : List Addr} {ls : List (Str × Value)} {qn : Str} {sc : Scope} {cd : Value}
theorem n_ {x : Str} {pos : Pos} {v : Value} {Q : Value → Shared → Prop} (B : Bd w D σ h0 L hz s.heap ls) (h : Q v s) (S : Loc sc x := by walk_at "LOC") (hv : look ls x = some v := by walk_at "LK") :
    wpAny (Mw w) A (eval (.Name x pos) (envOf qn sc L f cd)) Q E s := ev_loc B.F S hv h
theorem g_ {x : Str} {pos : Pos} {v : Value} {Q : Value → Shared → Prop} (B : Bd w D σ h0 L hz s.heap ls) (e : nsIn (Kw w) mainGlobals x = some (some v)) (h : Q v s) (S : Glo sc x := by walk_at "LOC") :
    wpAny (Mw w) A (eval (.Name x pos) (envOf qn sc L f cd)) Q E s := ev_glo B.G B.F S e h
theorem b_ {x : Str} {pos : Pos} {v : Value} {Q : Value → Shared → Prop} (B : Bd w D σ h0 L hz s.heap ls) (e : nsIn (Kw w) mainGlobals x = some none) (h : Q v s) (S : Glo sc x := by walk_at "LOC")
    (hv : bootBuiltins x = some v := by rfl) (hn : x ≠ "__name__" := by decide +kernel) :
    wpAny (Mw w) A (eval (.Name x pos) (envOf qn sc L f cd)) Q E s := ev_blt B.G B.F S e hv hn h
theorem a_ {x name : Str} {xp pos : Pos} {r C d : Addr} {fs : List (Str × Value)} {v : Value} {Q : Value → Shared → Prop} (B : Bd w D σ h0 L hz s.heap ls) (SA : AttrS w C name)
    (I : Inst s.heap C r d fs) (h : Q v { s with toks := s.toks + 1 }) (S : Loc sc x := by walk_at "LOC") (hx : look ls x = some (.ref r) := by walk_at "LK") (hl : fs.lookup name = some v := by rfl) (hv : handedIn v = true := by rfl) :
    wpAny (Mw w) A (eval (.Attribute (.Name x xp) name pos) (envOf qn sc L f cd)) Q E s := ev_attr B.G B.F S hx I SA hl hv h
/-- an attribute of a value at hand -/
theorem av_ {name : Str} {pos : Pos} {o : PySem.Expr} {Q : Value → Shared → Prop}
    (h : wpAny (Mw w) A (eval o (envOf qn sc L f cd)) (fun ov s₁ => ∃ r C d fs v, ov = .ref r ∧ (∃ hz ls, G1 w hz ∧ Fr hz L s₁.heap (look ls)) ∧ AttrS w C name ∧ Inst s₁.heap C r d fs ∧ fs.lookup name = some v ∧ handedIn v = true ∧ Q v { s₁ with toks := s₁.toks + 1 }) E s)
    (he : eval (.Attribute o name pos) (envOf qn sc L f cd) = (do
      let ov ← eval o (envOf qn sc L f cd)
      standAt pos.atName
      let r ← holding [ov] (getAttr ov name true)
      letTemporaryGo o ov r
      pure r) := by with_unfolding_all rfl) :
    wpAny (Mw w) A (eval (.Attribute o name pos) (envOf qn sc L f cd)) Q E s := by
  refine Attribute_any_ (wpAny_mono h ?_ fun _ _ x => x) he
  rintro ov s₁ ⟨r, C, d, fs, v, rfl, ⟨hz, ls, G, F⟩, SA, I, hl, hv, h⟩
  obtain ⟨es, n, I', H⟩ := I.at
  obtain ⟨attr, a, b⟩ := SA.ha
  exact get_own F G.X I' SA.hg SA.hh a b (by rw [H.get, hl]) hv h
/-- a method of an object that a name holds: no argument, one, two -/
theorem m0_ {x name : Str} {xp apos pos : Pos} {r C d g : Addr} {fs : List (Str × Value)} {Q : Value → Shared → Prop} (B : Bd w D σ h0 L hz s.heap ls) (SM : MethS w C name g) (I : Inst s.heap C r d fs)
    (h : wpAny (Mw w) A (call (.ref g) [.ref r]) Q E s) (S : Loc sc x := by walk_at "LOC") (hx : look ls x = some (.ref r) := by walk_at "LK") (hl : fs.lookup name = none := by rfl)
    (hc : eval (.Call (.Attribute (.Name x xp) name apos) [] [] pos) (envOf qn sc L f cd) = (do
      let ov ← eval (.Name x xp) (envOf qn sc L f cd)
      standAt apos.atName
      let (g, first) ← holding [ov] (getMethod ov name (do return (← importBound (.Name x xp) (envOf qn sc L f cd)).getD true))
      callWith pos g first (backTo pos (starEach [] (envOf qn sc L f cd))) []) := by rfl) :
    wpAny (Mw w) A (eval (.Call (.Attribute (.Name x xp) name apos) [] [] pos) (envOf qn sc L f cd)) Q E s :=
  ev_meth B.G B.F S hx I SM hl (cw0 B.G B.F SM.keep h) hc
theorem m1_ {x name : Str} {xp apos pos : Pos} {r C d g : Addr} {fs : List (Str × Value)} {e1 : PySem.Expr} {Q : Value → Shared → Prop} (B : Bd w D σ h0 L hz s.heap ls) (SM : MethS w C name g) (I : Inst s.heap C r d fs)
    (h : wpAny (Mw w) A (eval e1 (envOf qn sc L f cd)) (fun v s₁ => (∃ ls', Fr hz L s₁.heap (look ls')) ∧ wpAny (Mw w) A (call (.ref g) [.ref r, v]) Q E s₁) E s) (S : Loc sc x := by walk_at "LOC") (hx : look ls x = some (.ref r) := by walk_at "LK") (hl : fs.lookup name = none := by rfl)
    (he : starEach [e1] (envOf qn sc L f cd) = [(false, eval e1 (envOf qn sc L f cd))] := by rfl)
    (hc : eval (.Call (.Attribute (.Name x xp) name apos) [e1] [] pos) (envOf qn sc L f cd) = (do
      let ov ← eval (.Name x xp) (envOf qn sc L f cd)
      standAt apos.atName
      let (g, first) ← holding [ov] (getMethod ov name (do return (← importBound (.Name x xp) (envOf qn sc L f cd)).getD true))
      callWith pos g first (backTo pos (starEach [e1] (envOf qn sc L f cd))) []) := by rfl) :
    wpAny (Mw w) A (eval (.Call (.Attribute (.Name x xp) name apos) [e1] [] pos) (envOf qn sc L f cd)) Q E s :=
  ev_meth B.G B.F S hx I SM hl (cw1 B.G SM.keep h he) hc
theorem m2_ {x name : Str} {xp apos pos : Pos} {r C d g : Addr} {fs : List (Str × Value)} {e1 e2 : PySem.Expr} {Q : Value → Shared → Prop} (B : Bd w D σ h0 L hz s.heap ls) (SM : MethS w C name g) (I : Inst s.heap C r d fs)
    (h : wpAny (Mw w) A (eval e1 (envOf qn sc L f cd)) (fun v s₁ => wpAny (Mw w) A (eval e2 (envOf qn sc L f cd)) (fun u s₂ => (∃ ls', Fr hz L s₂.heap (look ls')) ∧ wpAny (Mw w) A (call (.ref g) [.ref r, v, u]) Q E s₂) E s₁) E s) (S : Loc sc x := by walk_at "LOC") (hx : look ls x = some (.ref r) := by walk_at "LK") (hl : fs.lookup name = none := by rfl)
    (he : starEach [e1, e2] (envOf qn sc L f cd) = [(false, eval e1 (envOf qn sc L f cd)), (false, eval e2 (envOf qn sc L f cd))] := by rfl) (he2 : starEach [e2] (envOf qn sc L f cd) = [(false, eval e2 (envOf qn sc L f cd))] := by rfl)
    (hc : eval (.Call (.Attribute (.Name x xp) name apos) [e1, e2] [] pos) (envOf qn sc L f cd) = (do
      let ov ← eval (.Name x xp) (envOf qn sc L f cd)
      standAt apos.atName
      let (g, first) ← holding [ov] (getMethod ov name (do return (← importBound (.Name x xp) (envOf qn sc L f cd)).getD true))
      callWith pos g first (backTo pos (starEach [e1, e2] (envOf qn sc L f cd))) []) := by rfl) :
    wpAny (Mw w) A (eval (.Call (.Attribute (.Name x xp) name apos) [e1, e2] [] pos) (envOf qn sc L f cd)) Q E s :=
  ev_meth B.G B.F S hx I SM hl (cw2 B.G SM.keep h he he2) hc
/-- a def of the text by its name -/
theorem f1_ {x : Str} {xp pos : Pos} {g : Addr} {e1 : PySem.Expr} {Q : Value → Shared → Prop} (B : Bd w D σ h0 L hz s.heap ls) (e : nsIn (Kw w) mainGlobals x = some (some (.ref g))) (hk : keepIn (Kw w) (.ref g) = true)
    (h : wpAny (Mw w) A (eval e1 (envOf qn sc L f cd)) (fun v s₁ => (∃ ls', Fr hz L s₁.heap (look ls')) ∧ wpAny (Mw w) A (call (.ref g) [v]) Q E s₁) E s) (S : Glo sc x := by walk_at "LOC")
    (he : starEach [e1] (envOf qn sc L f cd) = [(false, eval e1 (envOf qn sc L f cd))] := by rfl)
    (hc : eval (.Call (.Name x xp) [e1] [] pos) (envOf qn sc L f cd) = (do callWith pos (← eval (.Name x xp) (envOf qn sc L f cd)) [] (backTo pos (starEach [e1] (envOf qn sc L f cd))) (backToKw pos (keywordEach [] (envOf qn sc L f cd)))) := by rfl) :
    wpAny (Mw w) A (eval (.Call (.Name x xp) [e1] [] pos) (envOf qn sc L f cd)) Q E s :=
  Call_ (g_ B e (cw1 (first := []) B.G hk h he) S) hc
theorem f2_ {x : Str} {xp pos : Pos} {g : Addr} {e1 e2 : PySem.Expr} {Q : Value → Shared → Prop} (B : Bd w D σ h0 L hz s.heap ls) (e : nsIn (Kw w) mainGlobals x = some (some (.ref g))) (hk : keepIn (Kw w) (.ref g) = true)
    (h : wpAny (Mw w) A (eval e1 (envOf qn sc L f cd)) (fun v s₁ => wpAny (Mw w) A (eval e2 (envOf qn sc L f cd)) (fun u s₂ => (∃ ls', Fr hz L s₂.heap (look ls')) ∧ wpAny (Mw w) A (call (.ref g) [v, u]) Q E s₂) E s₁) E s) (S : Glo sc x := by walk_at "LOC")
    (he : starEach [e1, e2] (envOf qn sc L f cd) = [(false, eval e1 (envOf qn sc L f cd)), (false, eval e2 (envOf qn sc L f cd))] := by rfl) (he2 : starEach [e2] (envOf qn sc L f cd) = [(false, eval e2 (envOf qn sc L f cd))] := by rfl)
    (hc : eval (.Call (.Name x xp) [e1, e2] [] pos) (envOf qn sc L f cd) = (do callWith pos (← eval (.Name x xp) (envOf qn sc L f cd)) [] (backTo pos (starEach [e1, e2] (envOf qn sc L f cd))) (backToKw pos (keywordEach [] (envOf qn sc L f cd)))) := by rfl) :
    wpAny (Mw w) A (eval (.Call (.Name x xp) [e1, e2] [] pos) (envOf qn sc L f cd)) Q E s :=
  Call_ (g_ B e (cw2 (first := []) B.G hk h he he2) S) hc
/-- a name is bound -/
theorem s_ {x : Str} {v : Value} {Q : Unit → Shared → Prop} (B : Bd w D σ h0 L hz s.heap ls)
    (h : ∀ h' tk', Bd w D σ h0 L hz h' ((x, v) :: ls) → Ext [L] s.heap h' → Q () (St σ h' tk')) (S₀ : Same σ s := by walk_at "SM") (S : Loc sc x := by walk_at "LOC") :
    wpAny (Mw w) A (storeName (envOf qn sc L f cd) x v) Q E s :=
  st_name B.F S fun h' F' x => S₀.st h' _ ▸ h h' _ (B.step F' x fun d m => .inr (one_mem m (Nat.le_refl _))) x
/-- an attribute is stored -/
theorem sa_ {name : Str} {v : Value} {r C d : Addr} {fs : List (Str × Value)} {Q : Unit → Shared → Prop} (B : Bd w D σ h0 L hz s.heap ls) (SA : SetS w C name)
    (I : Inst s.heap C r d fs) (hd : d ∈ D ∨ L < d) (hLr : r ≠ L)
    (h : ∀ h' tk', Bd w D σ h0 L hz h' ls → Ext [L, d] s.heap h' → Inst h' C r d (put fs name v) → Q () (St σ h' tk')) (S : Same σ s := by walk_at "SM") (hn : fs.length ≤ 900 := by exact Nat.le_of_ble_eq_true rfl) :
    wpAny (Mw w) A (setAttr (.ref r) name v) Q E s := by
  have hLd : d ≠ L := by
    rintro rfl
    rcases hd with m | m
    · exact Nat.lt_irrefl _ (B.dn _ m).2
    · exact Nat.lt_irrefl _ m
  have hzd : hz.get? d = none := by
    rcases hd with m | m
    · exact (B.dn _ m).1
    · have : hz.objs.size ≤ d := by rw [B.hz, hideAll_size, ← B.L0]; exact Nat.le_of_lt m
      cases e : hz.get? d with
      | none => rfl
      | some o => exact absurd (Heap.lt_size e) (Nat.not_lt.mpr this)
  have hrd : r ≠ d := by
    rintro rfl
    obtain ⟨_, _, e1, es, n, e2, _⟩ := I
    rw [e1] at e2; cases e2
  refine set_attr B.G B.F SA I hn hLd hLr hzd hrd fun h' F' x I' => S.st h' _ ▸ h h' _ (B.step F' x fun b m => ?_) x I'
  rcases List.mem_cons.mp m with rfl | m
  · exact .inr (Nat.le_refl _)
  · rcases List.mem_cons.mp m with rfl | m
    · exact hd.imp id Nat.le_of_lt
    · cases m
end
theorem nin1 {b L : Addr} (h : b ≠ L) : b ∉ [L] := fun m => by rcases List.mem_cons.mp m with e | m; exact h e; cases m
theorem nin2 {b L d : Addr} (h : b ≠ L) (h2 : b ≠ d) : b ∉ [L, d] := fun m => by rcases List.mem_cons.mp m with e | m; exact h e; exact nin1 h2 m
theorem Inst.lt1 {h : Heap} {C r d : Addr} {fs} (I : Inst h C r d fs) : r < h.objs.size := Heap.lt_size I.2.2.1
theorem Inst.lt2 {h : Heap} {C r d : Addr} {fs} (I : Inst h C r d fs) : d < h.objs.size := by
  obtain ⟨_, _, _, _, _, e, _⟩ := I; exact Heap.lt_size e
theorem Inst.inDict {h : Heap} {C r d C' r' d' : Addr} {fs fs'} (I : Inst h C r d fs) (I' : Inst h C' r' d' fs') : r ≠ d' := by
  rintro rfl
  obtain ⟨_, _, e1, _⟩ := I
  obtain ⟨_, _, _, _, _, e2, _⟩ := I'
  rw [e1] at e2; cases e2
theorem EsAre.keys {es : List DictEntry} {fs fs' : List (Str × Value)} (H : EsAre es fs) (H' : EsAre es fs') : fs = fs' := by
  induction H generalizing fs' with
  | nil => cases H'; rfl
  | cons H ih => cases H' with | cons H' => rw [ih H']
theorem Inst.apart {h : Heap} {C r d C' r' d' : Addr} {fs fs'} (I : Inst h C r d fs) (I' : Inst h C' r' d' fs') (n : fs ≠ fs') : d ≠ d' := by
  rintro rfl
  obtain ⟨_, _, _, es, m, e1, H⟩ := I
  obtain ⟨_, _, _, es', m', e2, H'⟩ := I'
  rw [e1] at e2
  have : es = es' := by
    have := congrArg Obj.data (Option.some.inj e2)
    injection this with a _
    simpa using congrArg Array.toList a
  subst this
  exact n (H.keys H')
local macro_rules | `(tactic| walk_at "OK") => `(tactic| first | assumption | exact Ok.le (by assumption) (by omega))
/-- a token: its kind and its worth -/
noncomputable abbrev Tk := Str × Str
noncomputable def TK (h : Heap) (a : Addr) (tok : Tk) : Prop :=
  ∃ d t1 t2 atv b, Inst h 373 a d [("kind", .str tok.1 t1), ("worth", .str tok.2 t2), ("at", atv), ("is_in_a", .bool b)] ∧ handedIn atv = true
theorem TK.keeps {h h' : Heap} {a : Addr} {tok : Tk} (T : TK h a tok) (k : ∀ b o, h.get? b = some o → h'.get? b = some o) : TK h' a tok := by
  obtain ⟨d, t1, t2, atv, b, I, e⟩ := T
  exact ⟨d, t1, t2, atv, b, I.keeps k, e⟩
/-- tl is the list of the tokens ts -/
structure Toks (h : Heap) (tl : Addr) (ts : List (Addr × Tk)) : Prop where
  hi : 409 ≤ tl
  few : ts.length ≤ 1000000
  li : ∃ n, h.get? tl = some (W.listOf (ts.map fun p => Value.ref p.1).toArray n)
  tk : ∀ p ∈ ts, TK h p.1 p.2
  sh : ∀ p ∈ ts, p.2.2.length ≤ 1000
theorem Toks.keeps {h h' : Heap} {tl : Addr} {ts : List (Addr × Tk)} (T : Toks h tl ts) (k : ∀ b o, h.get? b = some o → h'.get? b = some o) : Toks h' tl ts :=
  ⟨T.hi, T.few, let ⟨n, e⟩ := T.li; ⟨n, k _ _ e⟩, fun p m => (T.tk p m).keeps k, T.sh⟩
theorem Toks.isList {h : Heap} {tl : Addr} {ts : List (Addr × Tk)} (T : Toks h tl ts) : h.IsList tl (ts.map fun p => Value.ref p.1).toArray := by
  obtain ⟨n, e⟩ := T.li
  exact ⟨_, e, rfl, n, rfl⟩
/-- r is a reader over tl at k -/
noncomputable def RD (h : Heap) (r d tl : Addr) (k : Nat) : Prop := ∃ t nm, Inst h 343 r d [("tokens", .ref tl), ("at", .int (k : Int) t), ("named", .ref nm)]
theorem RD.keeps {h h' : Heap} {r d tl : Addr} {k : Nat} (R : RD h r d tl k) (x : ∀ b o, h.get? b = some o → h'.get? b = some o) : RD h' r d tl k := by
  obtain ⟨t, nm, I⟩ := R
  exact ⟨t, nm, I.keeps x⟩
theorem RD.ext {h h' : Heap} {r d tl : Addr} {k : Nat} {D : List Addr} (R : RD h r d tl k) (x : Ext D h h') (hr : r ∉ D) (hd : d ∉ D) : RD h' r d tl k := by
  obtain ⟨t, nm, I⟩ := R
  exact ⟨t, nm, I.ext x hr hd⟩
noncomputable def tokAt (ts : List (Addr × Tk)) (k : Nat) : Value := match ts[k]? with
  | some p => .ref p.1
  | none => .none

theorem is_done_c {w : World} {h : Heap} {r d tl : Addr} {k : Nat} {ts : List (Addr × Tk)} (G : G1 w h) (R : RD h r d tl k) (T : Toks h tl ts) :
    Calls w 1 204 [.ref r] [] h (fun v _ => v = .bool (decide (ts.length ≤ k))) := by
  refine Calls.mk (fs_Reader_is_done w (.ref r)) G nil_mem fun A s g tg hz L E ok B x => ?_
  obtain ⟨t, nm, I⟩ := R.keeps x.keeps
  have T' := T.keeps x.keeps
  refine wpAny_execs_cons (wpAny_Return_some (wpAny_Compare1 (a_ B (as_Reader_at w) I ?_)))
  refine Call_ (b_ B (gn_len w) ?_)
  refine PyProof.Rows.callWith_builtin1 (args_cons (a_ B (as_Reader_tokens w) I (args_nil ?_)))
  refine call_len_list T'.isList (by have := T.few; simp; omega) ?_
  refine ge_int ⟨B.x, ?_, by walk_at "SM"⟩
  show Value.bool _ = .bool _
  simp
theorem peek_body {w : World} {h : Heap} {r d tl : Addr} {k j : Nat} {u : Tok} {ts : List (Addr × Tk)} (G : G1 w h) (R : RD h r d tl k) (T : Toks h tl ts) (hj : k + j < 2000000)
    {A : Around} {s : Shared} {g : Heap} {tg : Tok} {hz : Heap} {L : Addr} {E : Value → Shared → Prop} (ok : Ok A 0) (B : Bd w [] s h L hz g [("ahead", .int (j : Int) u), ("self", .ref r)]) (x : Ext [] h g) :
    wpAny (Mw w) A (execs b_197 (envOf "Reader.peek" s_197 L 197 (.ref 196))) (Post [] h s (fun v _ => v = tokAt ts (k + j))) E (St s g tg) := by
  obtain ⟨t, nm, I⟩ := R.keeps x.keeps
  have T' := T.keeps x.keeps
  refine wpAny_execs_cons (wpAny_If (wpAny_isTrue_Compare1 (wpAny_BinOp (a_ B (as_Reader_at w) I (n_ B (add_int ?_))))))
  refine Call_ (b_ B (gn_len w) ?_)
  refine PyProof.Rows.callWith_builtin1 (args_cons (a_ B (as_Reader_tokens w) I (args_nil ?_)))
  refine call_len_list T'.isList (by have := T.few; simp; omega) ?_
  refine lt_int (wpAny_truthy_bool ?_)
  by_cases hlt : k + j < ts.length
  · have e : decide ((k : Int) + (j : Int) < ((ts.map fun p => Value.ref p.1).toArray.size : Int)) = true := by simp; omega
    rw [e]
    refine wpAny_execs_cons (wpAny_Return_some (Subscript_ (a_ B (as_Reader_tokens w) I (wpAny_BinOp (a_ B (as_Reader_at w) I (n_ B (add_int ?_)))))))
    refine tail_any T'.isList.typeIs slot_list_getitem.lookup (wpAny_getItem_list T'.isList (by omega) (by omega) (x := tokAt ts (k + j)) ?_ ?_) (by with_unfolding_all rfl)
    · rw [show ((k : Int) + (j : Int)).toNat = k + j by omega]
      unfold tokAt
      simp [hlt]
    · exact ⟨B.x, rfl, by walk_at "SM"⟩
  · have e : decide ((k : Int) + (j : Int) < ((ts.map fun p => Value.ref p.1).toArray.size : Int)) = false := by simp; omega
    rw [e]
    refine wpAny_execs_nil ?_
    refine wpAny_execs_cons (wpAny_Return_some (wpAny_Constant_none ⟨B.x, ?_, by walk_at "SM"⟩))
    show Value.none = tokAt ts (k + j)
    unfold tokAt
    rw [List.getElem?_eq_none (by omega)]
theorem peek_c {w : World} {h : Heap} {r d tl : Addr} {k : Nat} {ts : List (Addr × Tk)} (G : G1 w h) (R : RD h r d tl k) (T : Toks h tl ts) (hk : k < 1500000) :
    Calls w 1 197 [.ref r] [] h (fun v _ => v = tokAt ts k) :=
  Calls.mk (fs_Reader_peek_d w (.ref r)) G nil_mem fun A s g tg hz L E ok B x => peek_body (j := 0) G R T (by omega) ok B x
theorem peek_j {w : World} {h : Heap} {r d tl : Addr} {k j : Nat} {u : Tok} {ts : List (Addr × Tk)} (G : G1 w h) (R : RD h r d tl k) (T : Toks h tl ts) (hj : k + j < 2000000) :
    Calls w 1 197 [.ref r, .int (j : Int) u] [] h (fun v _ => v = tokAt ts (k + j)) :=
  Calls.mk (fs_Reader_peek w (.ref r) _) G nil_mem fun A s g tg hz L E ok B x => peek_body G R T hj ok B x
noncomputable def kindAt (ts : List (Addr × Tk)) (k : Nat) (kd : Str) : Bool := match ts[k]? with
  | some p => p.2.1 == kd
  | none => false
theorem Bd.G1 {w D σ h0 L hz h ls} (B : Bd w D σ h0 L hz h ls) : Mine.G1 w h := B.G.keeps B.keep
theorem is_kind_body {w : World} {h : Heap} {r d tl : Addr} {k j : Nat} {u t1 : Tok} {kd : Str} {ts : List (Addr × Tk)} (R : RD h r d tl k) (T : Toks h tl ts) (hj : k + j < 2000000)
    {A : Around} {s : Shared} {g : Heap} {tg : Tok} {hz : Heap} {L : Addr} {E : Value → Shared → Prop} (ok : Ok A 1) (B : Bd w [] s h L hz g [("ahead", .int (j : Int) u), ("kind", .str kd t1), ("self", .ref r)]) (x : Ext [] h g) :
    wpAny (Mw w) A (execs b_226 (envOf "Reader.is_kind" s_226 L 226 (.ref 225))) (Post [] h s (fun v _ => v = .bool (kindAt ts (k + j) kd))) E (St s g tg) := by
  have R' := R.keeps x.keeps
  have T' := T.keeps x.keeps
  obtain ⟨t, nm, I⟩ := id R'
  refine wpAny_execs_cons (as_name (m1_ B (ms_Reader_peek w) I (n_ B ⟨⟨_, B.F⟩, B.use (peek_j B.G1 R' T' hj) fun v h₁ tk₁ B' x' p => ?_⟩)))
  subst p
  refine s_ B' fun h₂ tk₂ B₂ x₂ => ?_
  refine wpAny_execs_cons (wpAny_Return_some (BoolOp_and (wpAny_Compare1 (n_ B₂ (wpAny_Constant_none (isNot_none ?_))))))
  refine wpAny_truthy_bool ?_
  have T₂ : Toks h₂ tl ts := T.keeps (fun b o e => B₂.x b o e nil_not)
  cases e : ts[k + j]? with
  | none =>
    have e1 : tokAt ts (k + j) = .none := by unfold tokAt; rw [e]
    have e2 : kindAt ts (k + j) kd = false := by unfold kindAt; rw [e]
    rw [e1, e2]
    exact ⟨B₂.x, rfl, by walk_at "SM"⟩
  | some p =>
    have e1 : tokAt ts (k + j) = .ref p.1 := by unfold tokAt; rw [e]
    have e2 : kindAt ts (k + j) kd = (p.2.1 == kd) := by unfold kindAt; rw [e]
    rw [e1] at B₂
    rw [e1, e2]
    obtain ⟨d', t1, t2, atv, b, I', hv⟩ := T₂.tk p (List.mem_of_getElem? e)
    exact BoolOp_one (wpAny_Compare1 (a_ B₂ (as_Token_kind w) I' (n_ B₂ (eq_str ⟨B₂.x, rfl, by walk_at "SM"⟩))))
theorem is_kind_c {w : World} {h : Heap} {r d tl : Addr} {k : Nat} {t1 : Tok} {kd : Str} {ts : List (Addr × Tk)} (G : G1 w h) (R : RD h r d tl k) (T : Toks h tl ts) (hk : k < 1500000) :
    Calls w 2 226 [.ref r, .str kd t1] [] h (fun v _ => v = .bool (kindAt ts k kd)) :=
  Calls.mk (fs_Reader_is_kind_d w (.ref r) _) G nil_mem fun A s g tg hz L E ok B x => is_kind_body (j := 0) R T (by omega) ok B x
theorem is_kind_j {w : World} {h : Heap} {r d tl : Addr} {k j : Nat} {t1 u : Tok} {kd : Str} {ts : List (Addr × Tk)} (G : G1 w h) (R : RD h r d tl k) (T : Toks h tl ts) (hj : k + j < 2000000) :
    Calls w 2 226 [.ref r, .str kd t1, .int (j : Int) u] [] h (fun v _ => v = .bool (kindAt ts (k + j) kd)) :=
  Calls.mk (fs_Reader_is_kind w (.ref r) _ _) G nil_mem fun A s g tg hz L E ok B x => is_kind_body R T hj ok B x
theorem Bd.ext {w D σ h0 L hz h h' ls} (B : Bd w D σ h0 L hz h ls) {D' : List Addr} (x : Ext D' h h') (hs : ∀ d ∈ D', d ∈ D ∨ L < d := by walk_at "SUB") : Bd w D σ h0 L hz h' ls := by
  have hL : L ∉ D' := fun m => by
    rcases hs L m with m | m
    · exact Nat.lt_irrefl _ (B.dn L m).2
    · exact Nat.lt_irrefl _ m
  refine B.step (fr_ext B.F x hL fun d m => ?_) x fun d m => (hs d m).imp id Nat.le_of_lt
  rcases hs d m with m | m
  · exact (B.dn d m).1
  · have : hz.objs.size ≤ d := by rw [B.hz, hideAll_size, ← B.L0]; exact Nat.le_of_lt m
    cases e : hz.get? d with
    | none => rfl
    | some o => exact absurd (Heap.lt_size e) (Nat.not_lt.mpr this)
theorem Bd.Llt {w D σ h0 L hz h ls} (B : Bd w D σ h0 L hz h ls) : L < h.objs.size := B.F.ns.lt
/-- the frame alone, for the kit's rules over a frame and new objects -/
noncomputable abbrev hE : Heap := { objs := #[] }
theorem Bd.FL {w D σ h0 L hz h ls} (B : Bd w D σ h0 L hz h ls) : Fr hE L h (look ls) := ⟨B.F.ns, fun b o e => by simp [Heap.get?] at e, Nat.zero_le _⟩
theorem newsL (h : Heap) (L : Addr) : News hE L h (others h L L) := fun p hp => by
  obtain ⟨b, o⟩ := p
  obtain ⟨e, n1, n2⟩ := mem_others.mp hp
  exact ⟨e, n1, by simp [Heap.get?]⟩
theorem Bd.back {w D σ h0 L hz h h' ls ls'} (B : Bd w D σ h0 L hz h ls) (F : Fr hE L h' (look ls')) {news : List (Addr × Obj)} (N : News hE L h' news) (hn : ∀ p ∈ others h L L, p ∈ news) : Bd w D σ h0 L hz h' ls' ∧ Ext [L] h h' := by
  have x : Ext [L] h h' := fun b o e n => (N (b, o) (hn _ (mem_others.mpr ⟨e, fun q => n (q ▸ .head _), fun q => n (q ▸ .head _)⟩))).1
  refine ⟨B.step ⟨F.ns, fun b o e => x b o (B.keep b o e) fun m => ?_, B.F.above⟩ x fun d m => .inr ?_, x⟩
  · rcases List.mem_cons.mp m with rfl | m
    · exact absurd (Heap.lt_size e) (Nat.not_lt.mpr B.F.above)
    · cases m
  · rcases List.mem_cons.mp m with rfl | m
    · exact Nat.le_refl _
    · cases m
/-- a method of a builtin type -/
theorem bm_ {A : Around} {E : Value → Shared → Prop} {s : Shared} {env : Env} {prog : Program} {w : World} {T id : String} {name : Str} {o e : PySem.Expr} {apos pos : Pos} {Q : Value → Shared → Prop} (pa : PlainAttrs T) (slot : Slot T name id) (ty : typeOf (.builtin id) = pure (.type "method_descriptor"))
    (h : wpAny (model prog w) A (eval o env) (fun ov s₁ => s₁.TypeIs ov T ∧ (∀ a, ov = .ref a → ∃ ob, s₁.heap.get? a = some ob ∧ ob.dict = none) ∧
      wpAny (model prog w) A (eval e env) (fun v s₂ => wpAny (model prog w) A (call (.builtin id) [ov, v]) Q E s₂) E s₁) E s)
    (hbase : attributeBase o name env (eval o env) = eval o env := by with_unfolding_all rfl) (hs : starEach [e] env = [(false, eval e env)] := by rfl) (hline : (apos.endLine == pos.line) = true := by decide +kernel) :
    wpAny (model prog w) A (eval (.Call (.Attribute o name apos) [e] [] pos) env) Q E s :=
  Call_method1 hbase hs hline (wpAny_mono h (fun _ _ h₁ => ⟨T, id, pa, slot, ty, h₁.1, h₁.2.1, callWith_builtin rfl (evalArgs_plain (spliced_cons (wpAny_mono h₁.2.2 (fun _ _ h₂ => spliced_nil h₂) fun _ _ x => x)))⟩) fun _ _ x => x)
theorem bm0_ {A : Around} {E : Value → Shared → Prop} {s : Shared} {env : Env} {prog : Program} {w : World} {T id : String} {name : Str} {o : PySem.Expr} {apos pos : Pos} {Q : Value → Shared → Prop} (pa : PlainAttrs T) (slot : Slot T name id) (ty : typeOf (.builtin id) = pure (.type "method_descriptor"))
    (h : wpAny (model prog w) A (eval o env) (fun ov s₁ => s₁.TypeIs ov T ∧ (∀ a, ov = .ref a → ∃ ob, s₁.heap.get? a = some ob ∧ ob.dict = none) ∧
      wpAny (model prog w) A (call (.builtin id) [ov]) Q E s₁) E s)
    (hbase : attributeBase o name env (eval o env) = eval o env := by with_unfolding_all rfl) (hline : (apos.endLine == pos.line) = true := by decide +kernel) :
    wpAny (model prog w) A (eval (.Call (.Attribute o name apos) [] [] pos) env) Q E s :=
  Call_method0 hbase hline (wpAny_mono h (fun _ _ h₁ => ⟨T, id, pa, slot, ty, h₁.1, h₁.2.1, callWith_builtin rfl (PyProof.Rows.evalArgs_none h₁.2.2)⟩) fun _ _ x => x)
/-- split at a text -/
theorem split_ {w : World} {A : Around} {E : Value → Shared → Prop} {s σ : Shared} {D : List Addr} {h0 hz : Heap} {L : Addr} {ls : List (Str × Value)} {x y : Str} {t u : Tok} {Q : Value → Shared → Prop} (B : Bd w D σ h0 L hz s.heap ls)
    (hy : (y.length == 0) = false) (hsz : x.length + 2 ≤ sizeLine)
    (h : ∀ l h' tk', l.map (·.1) = Txt.split x y → Bd w D σ h0 L hz h' ls → Ext [L] s.heap h' → h'.get? s.heap.objs.size = some { cls := .type "list", data := .seq (strValues l).toArray } → Q (.ref s.heap.objs.size) (St σ h' tk')) (S : Same σ s := by walk_at "SM") :
    wpAny (Mw w) A (call (.builtin "str.split") [.str x t, .str y u]) Q E s := by
  refine splitN1 B.FL (newsL _ _) hy (fun l h' k e F N => ?_) hsz
  obtain ⟨B', x⟩ := B.back F N fun p m => .tail _ m
  exact S.st h' k ▸ h l h' k e B' x (N _ (.head _)).1
theorem for_list {w : World} {A : Around} {s s₀ : Shared} {R : Result → Shared → Prop} {env : Env} {x : Str} {px : Pos} {body : List Stmt} {it ax : Addr} {items : Array Value} (P : Nat → Heap → Prop) (hh : A.handled = none) (h0 : P 0 s.heap)
    (turn : ∀ i h t, P i h → h.IsListIter it ax i ∧ h.IsList ax items ∧ (items.size ≤ i → ∀ h', Ext [it] h h' → R (.ok .next) (St s₀ h' t)) ∧
      ∀ v E', items[i]? = some v → ∀ h', Ext [it] h h' → h'.IsListIter it ax (i + 1) →
        wpAny (Mw w) A (storeName env x v) (fun _ s₂ => wpAny (Mw w) A (execs body env) (fun f s₃ => match f with
          | .next | .cont => Same s₀ s₃ ∧ P (i + 1) s₃.heap
          | .brk => R (.ok .next) s₃
          | .ret v => R (.ok (.ret v)) s₃) E' s₂) E' (St s₀ h' t)) (S : Same s₀ s := by walk_at "SM") : codeAny (Mw w) A (.forLoop (.Name x px) (.ref it) body [] env) R s := by
  refine codeAny_forLoop (fun n s => ∃ i, n = items.size + 1 - i ∧ i ≤ items.size ∧ Same s₀ s ∧ P i s.heap) (fun n s hI => ?_) _ ⟨0, rfl, Nat.zero_le _, S, h0⟩
  obtain ⟨i, rfl, hi, S, p⟩ := hI
  obtain ⟨hit, hl, fin, go⟩ := turn i s.heap s.toks p
  rcases hv : items[i]? with _ | v
  · exact wpAny_pyNext_list_end hh hit hl hv fun h₁ he₁ => wpAny_execs_nil (S.st h₁ s.toks ▸ fin (by simpa using hv) h₁ fun b o e n => he₁ b o (fun q => n (q ▸ .head _)) e)
  · have hlt : i < items.size := (Array.getElem?_eq_some_iff.mp hv).1
    refine wpAny_pyNext_list_item hit hl hv fun h₁ hit₁ hs₁ => ?_
    have := go v (notedBy (Mw w) A env fun e s' => R (.error e) s') hv h₁ (fun b o e n => (hs₁.2 b fun q => n (q ▸ .head _)).trans e) hit₁
    rw [← S.st h₁ s.toks] at this
    refine wpAny_assign_Name (wpAny_mono this (fun _ s₂ q => wpAny_mono q (fun f s₃ q => ?_) fun _ _ x => x) fun _ _ x => x)
    cases f with
    | next => exact ⟨_, by omega, i + 1, rfl, hlt, q⟩
    | cont => exact ⟨_, by omega, i + 1, rfl, hlt, q⟩
    | brk => exact q
    | ret v => exact q

noncomputable def wordAt (ts : List (Addr × Tk)) (k : Nat) (x : Str) : Bool := match ts[k]? with
  | some p => p.2.1 == "word" && p.2.2 == x
  | none => false
noncomputable def headsAt (ts : List (Addr × Tk)) (k : Nat) : List Str → Bool
  | [] => true
  | x :: r => wordAt ts k x && headsAt ts (k + 1) r
theorem isIter_ext {h h' : Heap} {D : List Addr} {it ax : Addr} {i : Nat} (x : Ext D h h') (n : it ∉ D) (H : h.IsListIter it ax i) : h'.IsListIter it ax i := let ⟨o, e, r⟩ := H; ⟨o, x _ _ e n, r⟩
theorem wordAt_kind {ts : List (Addr × Tk)} {k : Nat} {x : Str} (h : kindAt ts k "word" = false) : wordAt ts k x = false := by
  unfold kindAt at h; unfold wordAt
  split at h <;> simp_all
theorem kindAt_get {ts : List (Addr × Tk)} {k : Nat} {kd : Str} (h : kindAt ts k kd = true) : ∃ p, ts[k]? = some p ∧ p.2.1 = kd := by
  unfold kindAt at h
  split at h
  · rename_i p e; exact ⟨p, e, by simpa using h⟩
  · cases h
theorem strs_get {l : List (Str × Tok)} {i : Nat} {v : Value} (hv : (strValues l).toArray[i]? = some v) : ∃ q : Str × Tok, l[i]? = some q ∧ v = .str q.1 q.2 := by
  simp only [strValues, List.getElem?_toArray, List.getElem?_map] at hv
  obtain ⟨q, e, rfl⟩ := Option.map_eq_some_iff.mp hv
  exact ⟨q, e, rfl⟩
theorem is_word_c {w : World} {h : Heap} {r d tl : Addr} {k : Nat} {t1 : Tok} {x : Str} {ws : List Str} {ts : List (Addr × Tk)} (G : G1 w h) (R : RD h r d tl k) (T : Toks h tl ts) (hk : k < 1500000)
    (hw : Txt.split x " " = ws) (hx : x.length ≤ 1000) (hl : ws.length ≤ 1000) : Calls w 3 233 [.ref r, .str x t1] [] h (fun v _ => v = .bool (headsAt ts k ws)) := by
  refine Calls.mk (fs_Reader_is_word w (.ref r) _) G nil_mem fun A s g tg hz L E ok B x0 => ?_
  refine wpAny_execs_cons (as_name (wpAny_Constant_int (s_ B fun h₁ tk₁ B₁ x₁ => ?_)))
  refine wpAny_execs_cons (wpAny_For (bm_ F.plainAttrs_str F.slot_str_split F.type_str_split (n_ B₁ ⟨typeIs_str _ _ _, fun _ e => (nomatch e), wpAny_Constant_str ?_⟩)))
  refine split_ B₁ (by decide +kernel) (by rw [sizeLine_eq]; omega) fun l h₂ tk₂ hl2 B₂ x₂ hL2 => ?_
  refine wpAny_pyIter_list ⟨_, hL2, rfl, _, rfl⟩ ?_
  have B₃ := B₂.push { cls := .type "list_iterator", data := .fields #[.ref h₁.objs.size, .int 0 0] }
  have hln : l.map (·.1) = ws := hl2.trans hw
  have hnl1 : h₁.objs.size ≠ L := Nat.ne_of_gt B₁.Llt
  have hnl2 : h₂.objs.size ≠ L := Nat.ne_of_gt B₂.Llt
  have hne12 : h₁.objs.size ≠ h₂.objs.size := Nat.ne_of_lt (Heap.lt_size hL2)
  refine for_list (items := (strValues l).toArray) (ax := h₁.objs.size) (fun i h' => (∃ ls t, Bd w [] s h L hz h' ls ∧ look ls "self" = some (.ref r) ∧ look ls "words" = some (.str x t1) ∧ look ls "ahead" = some (.int (i : Int) t)) ∧
    h'.IsListIter h₂.objs.size h₁.objs.size i ∧ h'.get? h₁.objs.size = some { cls := .type "list", data := .seq (strValues l).toArray } ∧ headsAt ts (k + i) (ws.drop i) = headsAt ts k ws) ok.hd
    ⟨⟨_, _, B₃, by walk_at "LK", by walk_at "LK", by walk_at "LK"⟩, ⟨_, Heap.get?_push_size _ rfl, rfl, rfl⟩, Heap.get?_push_of_some _ hL2, rfl⟩ fun i h₃ tk₃ P => ?_
  obtain ⟨⟨ls, tt, B₄, h1, h2, h3⟩, hit, hL4, hh⟩ := P
  have hit0 : ∀ d ∈ [h₂.objs.size], d ∈ ([] : List Addr) ∨ L < d := fun d m => one_mem m (.inr B₂.Llt)
  refine ⟨hit, ⟨_, hL4, rfl, _, rfl⟩, fun hi h₄ x4 => ?_, fun v E' hv h₄ x4 hit' => ?_⟩
  · have B₅ := B₄.ext x4 hit0
    refine wpAny_execs_cons (wpAny_Return_some (wpAny_Constant_bool ⟨B₅.x, ?_, by walk_at "SM"⟩))
    show Value.bool true = _
    rw [← hh, List.drop_eq_nil_of_le (by rw [← hln]; simpa [strValues] using hi)]
    rfl
  · have B₅ := B₄.ext x4 hit0
    have hL5 := x4 _ _ hL4 (nin1 hne12)
    obtain ⟨q, hq, rfl⟩ := strs_get hv
    have hwi : ws[i]? = some q.1 := by rw [← hln, List.getElem?_map, hq]; rfl
    have hil : i < 1000 := by have := (List.getElem?_eq_some_iff.mp hwi).1; omega
    have hdrop : ws.drop i = q.1 :: ws.drop (i + 1) := by
      rw [List.drop_eq_getElem_cons (List.getElem?_eq_some_iff.mp hwi).1, (List.getElem?_eq_some_iff.mp hwi).2]
    rw [hdrop] at hh
    refine s_ B₅ fun h₆ tk₆ B₆ x6 => ?_
    have R₆ : ∀ {h : Heap} {ls}, Bd w [] s _ L hz h ls → RD h r d tl k := fun B => R.keeps B.x.keeps
    have T₆ : ∀ {h : Heap} {ls}, Bd w [] s _ L hz h ls → Toks h tl ts := fun B => T.keeps B.x.keeps
    obtain ⟨t, nm, I⟩ := R₆ B₆
    refine wpAny_execs_cons (wpAny_If (isTrue_or (isTrue_not (isTrue_plain ?_))))
    refine m2_ B₆ (ms_Reader_is_kind w) I (wpAny_Constant_str (n_ B₆ ⟨⟨_, B₆.F⟩, ?_⟩))
    refine B₆.use (is_kind_j (j := i) B₆.G1 (R₆ B₆) (T₆ B₆) (by omega)) fun v h₇ tk₇ B₇ x7 p => ?_
    subst p
    refine wpAny_truthy_bool ?_
    cases hk : kindAt ts (k + i) "word" with
    | false =>
      refine wpAny_execs_cons (wpAny_Return_some (wpAny_Constant_bool ⟨B₇.x, ?_, by walk_at "SM"⟩))
      show Value.bool false = _
      rw [← hh]
      show _ = Value.bool (wordAt ts (k + i) q.1 && _)
      rw [wordAt_kind hk]; rfl
    | true =>
      obtain ⟨p, hp, hpk⟩ := kindAt_get hk
      obtain ⟨t, nm, I⟩ := R₆ B₇
      refine isTrue_or (wpAny_isTrue_Compare1 (av_ ?_))
      refine m1_ B₇ (ms_Reader_peek w) I (n_ B₇ ⟨⟨_, B₇.F⟩, ?_⟩)
      refine B₇.use (peek_j (j := i) B₇.G1 (R₆ B₇) (T₆ B₇) (by omega)) fun v h₈ tk₈ B₈ x8 e => ?_
      subst e
      obtain ⟨d', t1, t2, atv, b, I', hv⟩ := (T₆ B₈).tk p (List.mem_of_getElem? hp)
      refine ⟨p.1, 373, d', _, _, by unfold tokAt; rw [hp], ⟨_, _, B₈.G, B₈.F⟩, as_Token_worth w, I', rfl, rfl, ?_⟩
      refine n_ B₈ (ne_str (wpAny_truthy_bool ?_))
      have hwd : wordAt ts (k + i) q.1 = (p.2.2 == q.1) := by unfold wordAt; rw [hp]; simp [hpk]
      have hh' : headsAt ts k ws = ((p.2.2 == q.1) && headsAt ts (k + i + 1) (ws.drop (i + 1))) := by rw [← hh, ← hwd]; rfl
      cases hne : (p.2.2 == q.1) with
      | false =>
        have e : (p.2.2 != q.1) = true := by unfold bne; rw [hne]; rfl
        rw [e]
        refine wpAny_execs_cons (wpAny_Return_some (wpAny_Constant_bool ⟨B₈.x, ?_, by walk_at "SM"⟩))
        show Value.bool false = _
        rw [hh', hne]; rfl
      | true =>
        have e : (p.2.2 != q.1) = false := by unfold bne; rw [hne]; rfl
        rw [e]
        refine isTrue_or_nil (wpAny_execs_nil ?_)
        refine wpAny_execs_cons (as_name (wpAny_BinOp (n_ B₈ (wpAny_Constant_int (add_int (s_ B₈ fun h₉ tk₉ B₉ x9 => ?_))))))
        refine wpAny_execs_nil ⟨by walk_at "SM", ⟨_, _, B₉, by walk_at "LK", by walk_at "LK", by walk_at "LK"⟩, ?_, ?_, ?_⟩
        · exact isIter_ext x9 (nin1 hnl2) (isIter_ext x8 nil_not (isIter_ext x7 nil_not (isIter_ext x6 (nin1 hnl2) hit')))
        · exact x9 _ _ (x8 _ _ (x7 _ _ (x6 _ _ hL5 (nin1 hnl1)) nil_not) nil_not) (nin1 hnl1)
        · rw [hh', hne]
          rfl
noncomputable def isIn (p : List Nat) : List Nat → Bool
  | [] => p.isPrefixOf []
  | c :: l => p.isPrefixOf (c :: l) || isIn p l
theorem isIn_iff (p l : List Nat) : isIn p l = true ↔ ∃ i, p <+: l.drop i := by
  induction l with
  | nil => simp [isIn]
  | cons c l ih =>
    unfold isIn
    rw [Bool.or_eq_true, ih, List.isPrefixOf_iff_prefix]
    constructor
    · rintro (h | ⟨i, h⟩)
      · exact ⟨0, h⟩
      · exact ⟨i + 1, h⟩
    · rintro ⟨i, h⟩
      cases i with
      | zero => exact .inl h
      | succ i => exact .inr ⟨i, h⟩
theorem found_isIn (x y : Str) : (!(Builtin.Str.occurrences x y 0 x.length 1).isEmpty) = isIn y.cps.toList x.cps.toList := by
  rw [Bool.eq_iff_iff, StrLaws.found_iff, isIn_iff]
  constructor
  · rintro ⟨i, h1, h2⟩
    rw [StrLaws.subAt_eq, beq_iff_eq] at h2
    exact ⟨i, h2 ▸ List.take_prefix _ _⟩
  · rintro ⟨i, h⟩
    by_cases hl : i ≤ x.cps.toList.length
    · refine ⟨i, ?_, ?_⟩
      · have := h.length_le
        rw [List.length_drop] at this
        show i + y.cps.size ≤ x.cps.size
        simp at this hl ⊢
        omega
      · rw [StrLaws.subAt_eq, beq_iff_eq]
        have := List.prefix_iff_eq_take.mp h
        rw [show y.length = y.cps.toList.length by show y.cps.size = _; simp]
        exact this.symm
    · rw [List.drop_eq_nil_of_le (by omega)] at h
      have h' : y.cps.toList = [] := List.prefix_nil.mp h
      refine ⟨0, ?_, ?_⟩
      · have : y.cps.toList.length = 0 := by rw [h']; rfl
        show 0 + y.cps.size ≤ _
        simp at this ⊢
        simp [this]
      · rw [StrLaws.subAt_eq, beq_iff_eq]
        have : y.length = 0 := by
          have : y.cps.toList.length = 0 := by rw [h']; rfl
          show y.cps.size = 0
          simpa using this
        rw [this, h']; rfl
/-- is the word reserved -/
noncomputable def resd (x : Str) : Bool := isIn (32 :: (x.cps.toList ++ [32])) resCodes
theorem resd_is (x : Str) : (!(Builtin.Str.occurrences RES ((" " : Str) ++ x ++ (" " : Str)) 0 RES.length 1).isEmpty) = resd x := by
  rw [found_isIn, res_codes]
  unfold resd
  congr 1
  obtain ⟨a⟩ := x
  show ((#[32] ++ a) ++ #[32]).toList = _
  simp
theorem resd_K : resd "K" = false := by decide +kernel
theorem resd_ACCESS : resd "ACCESS" = true := by decide +kernel
theorem gl_RESERVED (w : World) : nsIn (Kw w) mainGlobals "RESERVED" = some (some (.str RES 400)) := by kernel_rfl
theorem is_reserved_c {w : World} {h : Heap} {x : Str} {t : Tok} (G : G1 w h) (hx : x.length ≤ 1000) : Calls w 1 174 [.str x t] [] h (fun v _ => v = .bool (resd x)) := by
  refine Calls.mk (fs_is_reserved w _) G nil_mem fun A s g tg hz L E ok B x0 => ?_
  refine wpAny_execs_cons (wpAny_Return_some (wpAny_Compare1 (wpAny_BinOp (wpAny_BinOp (wpAny_Constant_str (n_ B (add_str (fun t' tk => wpAny_Constant_str (add_str (fun t₂ tk₂ => ?_) ?_)) ?_)))))))
  · refine g_ B (gl_RESERVED w) (in_str ⟨B.x, ?_, by walk_at "SM"⟩)
    exact congrArg Value.bool (resd_is x)
  · have : ((" " : Str) ++ x).length = 1 + x.length := by obtain ⟨a⟩ := x; show (#[32] ++ a).size = 1 + a.size; simp
    rw [this, sizeLine_eq]
    show 1 + x.length + 1 ≤ _
    omega
  · rw [sizeLine_eq]
    show 1 + x.length ≤ _
    omega

/-- the reader stands before the tokens rem -/
noncomputable def Rd (h : Heap) (r d tl : Addr) (ts : List (Addr × Tk)) (rem : List Tk) : Prop := ∃ k, RD h r d tl k ∧ (ts.drop k).map (·.2) = rem ∧ k ≤ 1000000
theorem Rd.keeps {h h' : Heap} {r d tl : Addr} {ts rem} (R : Rd h r d tl ts rem) (x : ∀ b o, h.get? b = some o → h'.get? b = some o) : Rd h' r d tl ts rem := let ⟨k, a, b⟩ := R; ⟨k, a.keeps x, b⟩
theorem Rd.ext {h h' : Heap} {r d tl : Addr} {ts rem} {D : List Addr} (R : Rd h r d tl ts rem) (x : Ext D h h') (hr : r ∉ D) (hd : d ∉ D) : Rd h' r d tl ts rem := let ⟨k, a, b⟩ := R; ⟨k, a.ext x hr hd, b⟩
noncomputable def heads : List Str → List Tk → Bool
  | [], _ => true
  | _ :: _, [] => false
  | w :: ws, t :: r => (t.1 == "word" && t.2 == w) && heads ws r
theorem map_drop_get {ts : List (Addr × Tk)} {k : Nat} {rem : List Tk} (h : (ts.drop k).map (·.2) = rem) : (ts[k]?).map (·.2) = rem.head? := by
  rw [← h, List.head?_map, List.head?_drop]
theorem drop_succ {ts : List (Addr × Tk)} {k : Nat} {rem : List Tk} (h : (ts.drop k).map (·.2) = rem) : (ts.drop (k + 1)).map (·.2) = rem.tail := by
  rw [← h, ← List.tail_drop, List.map_tail]
theorem drop_more {ts : List (Addr × Tk)} {k n : Nat} {rem : List Tk} (h : (ts.drop k).map (·.2) = rem) : (ts.drop (k + n)).map (·.2) = rem.drop n := by
  rw [← h, ← List.map_drop, List.drop_drop]
theorem headsAt_is {ts : List (Addr × Tk)} {ws : List Str} {k : Nat} {rem : List Tk} (h : (ts.drop k).map (·.2) = rem) : headsAt ts k ws = heads ws rem := by
  induction ws generalizing k rem with
  | nil => cases rem <;> rfl
  | cons x ws ih =>
    have e := map_drop_get h
    have e2 := drop_succ h
    unfold headsAt wordAt
    cases rem with
    | nil =>
      rw [List.head?_nil, Option.map_eq_none_iff] at e
      rw [e]; rfl
    | cons t r =>
      rw [List.head?_cons] at e
      obtain ⟨p, hp, rfl⟩ := Option.map_eq_some_iff.mp e
      rw [hp, ih e2]; rfl
noncomputable def kindHd (kd : Str) : List Tk → Bool
  | [] => false
  | t :: _ => t.1 == kd
theorem kindAt_is {ts : List (Addr × Tk)} {kd : Str} {k : Nat} {rem : List Tk} (h : (ts.drop k).map (·.2) = rem) : kindAt ts k kd = kindHd kd rem := by
  have e := map_drop_get h
  unfold kindAt
  cases rem with
  | nil =>
    rw [List.head?_nil, Option.map_eq_none_iff] at e
    rw [e]; rfl
  | cons t r =>
    rw [List.head?_cons] at e
    obtain ⟨p, hp, rfl⟩ := Option.map_eq_some_iff.mp e
    rw [hp]; rfl
theorem is_word_r {w : World} {h : Heap} {r d tl : Addr} {t1 : Tok} {x : Str} (ws : List Str) {ts : List (Addr × Tk)} {rem : List Tk} (G : G1 w h) (R : Rd h r d tl ts rem) (T : Toks h tl ts)
    (hw : Txt.split x " " = ws) (hx : x.length ≤ 1000 := by decide +kernel) (hl : ws.length ≤ 1000 := by decide +kernel) : Calls w 3 233 [.ref r, .str x t1] [] h (fun v _ => v = .bool (heads ws rem)) := by
  obtain ⟨k, R, e, hk⟩ := R
  rw [← headsAt_is e]
  exact is_word_c G R T (by omega) hw hx hl
theorem is_kind_r {w : World} {h : Heap} {r d tl : Addr} {t1 : Tok} {kd : Str} {ts : List (Addr × Tk)} {rem : List Tk} (G : G1 w h) (R : Rd h r d tl ts rem) (T : Toks h tl ts) :
    Calls w 2 226 [.ref r, .str kd t1] [] h (fun v _ => v = .bool (kindHd kd rem)) := by
  obtain ⟨k, R, e, hk⟩ := R
  rw [← kindAt_is e]
  exact is_kind_c G R T (by omega)
/-- the token ahead -/
noncomputable def ahead (ts : List (Addr × Tk)) (rem : List Tk) (v : Value) : Prop := match rem with
  | [] => v = .none
  | t :: _ => ∃ p ∈ ts, v = .ref p.1 ∧ p.2 = t
theorem ahead_is {ts : List (Addr × Tk)} {k : Nat} {rem : List Tk} (h : (ts.drop k).map (·.2) = rem) : ahead ts rem (tokAt ts k) := by
  have e := map_drop_get h
  unfold tokAt ahead
  cases rem with
  | nil =>
    rw [List.head?_nil, Option.map_eq_none_iff] at e
    rw [e]
  | cons t r =>
    rw [List.head?_cons] at e
    obtain ⟨p, hp, rfl⟩ := Option.map_eq_some_iff.mp e
    rw [hp]; exact ⟨p, List.mem_of_getElem? hp, rfl, rfl⟩
theorem peek_r {w : World} {h : Heap} {r d tl : Addr} {ts : List (Addr × Tk)} {rem : List Tk} (G : G1 w h) (R : Rd h r d tl ts rem) (T : Toks h tl ts) :
    Calls w 1 197 [.ref r] [] h (fun v _ => ahead ts rem v) := by
  obtain ⟨k, R, e, hk⟩ := R
  intro A s K hs ok kk
  exact peek_c G R T (by omega) A s K hs ok fun v h' tk' x p => kk v h' tk' x (p ▸ ahead_is e)
theorem is_done_r {w : World} {h : Heap} {r d tl : Addr} {ts : List (Addr × Tk)} {rem : List Tk} (G : G1 w h) (R : Rd h r d tl ts rem) (T : Toks h tl ts) :
    Calls w 1 204 [.ref r] [] h (fun v _ => v = .bool rem.isEmpty) := by
  obtain ⟨k, R, e, hk⟩ := R
  have := is_done_c G R T
  have q : decide (ts.length ≤ k) = rem.isEmpty := by
    rw [← e, Bool.eq_iff_iff]
    simp
  rwa [q] at this
theorem Bd.over {w D σ h0 L hz h ls} (B : Bd w D σ h0 L hz h ls) {D' : List Addr} (hs : ∀ d ∈ D', d ∈ D ∨ L < d := by walk_at "SUB") : ∀ b o, hz.get? b = some o → (hideAll h D').get? b = some o := by
  intro b o e
  refine hideAll_get D' (B.keep b o e) fun m => ?_
  rcases hs b m with m | m
  · rw [(B.dn b m).1] at e; cases e
  · have : hz.objs.size ≤ b := by rw [B.hz, hideAll_size, ← B.L0]; exact Nat.le_of_lt m
    exact absurd (Heap.lt_size e) (Nat.not_lt.mpr this)
theorem hideAll_keep {h : Heap} {D : List Addr} : ∀ b o, (hideAll h D).get? b = some o → h.get? b = some o := fun _ _ e => of_hideAll D e
theorem Rd.lt {h : Heap} {r d tl : Addr} {ts rem} (R : Rd h r d tl ts rem) : r < h.objs.size ∧ 409 ≤ d ∧ d < h.objs.size := by
  obtain ⟨k, ⟨t, nm, I⟩, _⟩ := R
  exact ⟨I.lt1, I.2.1, I.lt2⟩
theorem Rd.hD {h : Heap} {r d tl : Addr} {ts rem} (R : Rd h r d tl ts rem) : ∀ x ∈ [d], 409 ≤ x ∧ x < h.objs.size := fun x m => by
  rcases List.mem_cons.mp m with rfl | m
  · exact R.lt.2
  · cases m
theorem heads_len {ws : List Str} {rem : List Tk} (h : heads ws rem = true) : ws.length ≤ rem.length := by
  induction ws generalizing rem with
  | nil => exact Nat.zero_le _
  | cons w ws ih =>
    cases rem with
    | nil => cases h
    | cons t r =>
      unfold heads at h
      rw [Bool.and_eq_true] at h
      exact Nat.succ_le_succ (ih h.2)
theorem rem_le {ts : List (Addr × Tk)} {k : Nat} {rem : List Tk} (h : (ts.drop k).map (·.2) = rem) (hf : ts.length ≤ 1000000) (hk : k ≤ 1000000) {n : Nat} (hn : n ≤ rem.length) : k + n ≤ 1000000 := by
  rw [← h, List.length_map, List.length_drop] at hn
  omega
theorem put_at (a b c v : Value) : put [("tokens", a), ("at", b), ("named", c)] "at" v = ([("tokens", a), ("at", v), ("named", c)] : List (Str × Value)) := by kernel_rfl
theorem skip_c {w : World} {h : Heap} {r d tl : Addr} {t1 : Tok} {x : Str} (ws : List Str) {ts : List (Addr × Tk)} {rem : List Tk} (G : G1 w h) (R : Rd h r d tl ts rem) (T : Toks (hideAll h [d]) tl ts)
    (hw : Txt.split x " " = ws) (hx : x.length ≤ 1000 := by decide +kernel) (hl : ws.length ≤ 1000 := by decide +kernel) : Calls w 4 240 [.ref r, .str x t1] [d] h (fun v h' => v = .bool (heads ws rem) ∧ Rd h' r d tl ts (if heads ws rem then rem.drop ws.length else rem)) := by
  refine Calls.mk (fs_Reader_skip w _ _) G R.hD fun A s g tg hz L E ok B x0 => ?_
  have T : Toks hz tl ts := B.hz ▸ T
  have R₁ := R.keeps x0.keeps
  obtain ⟨k, ⟨t, nm, I⟩, e, hk⟩ := id R₁
  refine wpAny_execs_cons (wpAny_If (isTrue_not (isTrue_plain ?_)))
  refine m1_ B (ms_Reader_is_word w) I (n_ B ⟨⟨_, B.F⟩, ?_⟩)
  refine B.use (is_word_r ws B.G1 R₁ (T.keeps B.keep) hw hx hl) fun v h₂ tk₂ B₂ x2 p => ?_
  subst p
  refine wpAny_truthy_bool ?_
  have R₂ := R₁.keeps x2.keeps
  obtain ⟨k, ⟨t, nm, I₂⟩, e, hk⟩ := id R₂
  cases hh : heads ws rem with
  | false => exact wpAny_execs_cons (wpAny_Return_some (wpAny_Constant_bool ⟨B₂.x, ⟨rfl, R₂⟩, by walk_at "SM"⟩))
  | true =>
    refine wpAny_execs_nil (wpAny_execs_cons (plainObj_wpAny_Assign_Attribute (wpAny_BinOp (a_ B₂ (as_Reader_at w) I₂ ?_))))
    refine Call_ (b_ B₂ (gn_len w) (PyProof.Rows.callWith_builtin1 (args_cons (bm_ F.plainAttrs_str F.slot_str_split F.type_str_split (n_ B₂ ⟨typeIs_str _ _ _, fun _ e => (nomatch e), wpAny_Constant_str ?_⟩)))))
    refine split_ B₂ (by decide +kernel) (by rw [sizeLine_eq]; omega) fun l h₃ tk₃ hl2 B₃ x3 hL3 => args_nil ?_
    have hln : l.length = ws.length := by rw [← hw, ← hl2, List.length_map]
    have hrL : r ≠ L := Nat.ne_of_lt (B.L0 ▸ R.lt.1)
    have hdL : d ≠ L := Nat.ne_of_lt (B.L0 ▸ R.lt.2.2)
    have I₃ := I₂.ext x3 (nin1 hrL) (nin1 hdL)
    refine call_len_list ⟨_, hL3, rfl, _, rfl⟩ (by simp [strValues]; omega) ?_
    refine add_int (n_ B₃ (sa_ B₃ (ss_Reader_at w) I₃ (.inl (.head _)) hrL fun h₄ tk₄ B₄ x4 I₄ => ?_))
    refine wpAny_execs_cons (wpAny_Return_some (wpAny_Constant_bool ⟨B₄.x, ⟨rfl, ?_⟩, by walk_at "SM"⟩))
    have e2 : ((k : Int) + ((strValues l).toArray.size : Int)) = ((k + ws.length : Nat) : Int) := by simp [strValues, hln]
    rw [e2, put_at] at I₄
    exact ⟨k + ws.length, ⟨_, _, I₄⟩, drop_more e, rem_le e T.few hk (heads_len hh)⟩
/-- from what a reader in a body holds -/
theorem take_c {w : World} {h : Heap} {r d tl : Addr} {ts : List (Addr × Tk)} {tok : Tk} {rem : List Tk} (G : G1 w h) (R : Rd h r d tl ts (tok :: rem)) (T : Toks (hideAll h [d]) tl ts) :
    Calls w 2 218 [.ref r] [d] h (fun v h' => (∃ p ∈ ts, v = .ref p.1 ∧ p.2 = tok) ∧ Rd h' r d tl ts rem) := by
  refine Calls.mk (fs_Reader_take w _) G R.hD fun A s g tg hz L E ok B x0 => ?_
  have T : Toks hz tl ts := B.hz ▸ T
  have R₁ := R.keeps x0.keeps
  obtain ⟨k, ⟨t, nm, I⟩, e, hk⟩ := id R₁
  refine wpAny_execs_cons (as_name (m0_ B (ms_Reader_peek w) I ?_))
  refine B.use (peek_r B.G1 R₁ (T.keeps B.keep)) fun v h₂ tk₂ B₂ x2 p => ?_
  obtain ⟨p, hp, rfl, hpt⟩ := p
  refine s_ B₂ fun h₃ tk₃ B₃ x3 => ?_
  have hrL : r ≠ L := Nat.ne_of_lt (B.L0 ▸ R.lt.1)
  have hdL : d ≠ L := Nat.ne_of_lt (B.L0 ▸ R.lt.2.2)
  have I₃ := (I.keeps x2.keeps).ext x3 (nin1 hrL) (nin1 hdL)
  refine wpAny_execs_cons (wpAny_If (wpAny_isTrue_Compare1 (n_ B₃ (wpAny_Constant_none (is_none (wpAny_truthy_bool ?_))))))
  refine wpAny_execs_nil (wpAny_execs_cons (plainObj_wpAny_Assign_Attribute (wpAny_BinOp (a_ B₃ (as_Reader_at w) I₃ (wpAny_Constant_int (add_int ?_))))))
  refine n_ B₃ (sa_ B₃ (ss_Reader_at w) I₃ (.inl (.head _)) hrL fun h₄ tk₄ B₄ x4 I₄ => ?_)
  refine wpAny_execs_cons (wpAny_Return_some (n_ B₄ ⟨B₄.x, ⟨⟨p, hp, rfl, hpt⟩, ?_⟩, by walk_at "SM"⟩))
  rw [put_at] at I₄
  exact ⟨k + 1, ⟨_, _, I₄⟩, drop_succ e, rem_le e T.few hk (Nat.succ_le_succ (Nat.zero_le _))⟩
/-- the worth of the token taken -/
theorem worth_of {w : World} {h : Heap} {hz : Heap} {L tl : Addr} {ts : List (Addr × Tk)} {p : Addr × Tk} (T : Toks h tl ts) (hp : p ∈ ts) : ∃ d fs t, Inst h 373 p.1 d fs ∧ fs.lookup ("worth" : Str) = some (Value.str p.2.2 t) := by
  obtain ⟨d', t1, t2, atv, b, I', hv⟩ := T.tk p hp
  exact ⟨d', _, t2, I', rfl⟩
theorem word_c {w : World} {h : Heap} {r d tl : Addr} {ts : List (Addr × Tk)} {x : Str} {rem : List Tk} (G : G1 w h) (R : Rd h r d tl ts (("word", x) :: rem)) (T : Toks (hideAll h [d]) tl ts) :
    Calls w 3 261 [.ref r] [d] h (fun v h' => (∃ t, v = .str x t) ∧ Rd h' r d tl ts rem) := by
  refine Calls.mk (fs_Reader_word w _) G R.hD fun A s g tg hz L E ok B x0 => ?_
  have T : Toks hz tl ts := B.hz ▸ T
  have R₁ := R.keeps x0.keeps
  obtain ⟨k, ⟨t, nm, I⟩, e, hk⟩ := id R₁
  refine wpAny_execs_cons (wpAny_If (isTrue_not (isTrue_plain ?_)))
  refine m1_ B (ms_Reader_is_kind w) I (wpAny_Constant_str ⟨⟨_, B.F⟩, ?_⟩)
  refine B.use (is_kind_r B.G1 R₁ (T.keeps B.keep)) fun v h₂ tk₂ B₂ x2 p => ?_
  subst p
  refine wpAny_truthy_bool (wpAny_execs_nil ?_)
  have R₂ := R₁.keeps x2.keeps
  obtain ⟨k, ⟨t, nm, I₂⟩, e, hk⟩ := id R₂
  refine wpAny_execs_cons (wpAny_Return_some (av_ (m0_ B₂ (ms_Reader_take w) I₂ ?_)))
  refine B₂.use (take_c B₂.G1 R₂ (T.keeps B₂.over)) fun v h₃ tk₃ B₃ x3 p => ?_
  obtain ⟨⟨p, hp, rfl, hpt⟩, R₃⟩ := p
  obtain ⟨d', fs, t', I', hw⟩ := worth_of (w := w) (hz := hz) (L := L) (T.keeps B₃.keep) hp
  exact ⟨p.1, 373, d', fs, _, rfl, ⟨_, _, B₃.G, B₃.F⟩, as_Token_worth w, I', hw, rfl, B₃.x, ⟨⟨t', by rw [hpt]; rfl⟩, R₃⟩, ⟨rfl⟩⟩
theorem literal_c {w : World} {h : Heap} {r d tl : Addr} {ts : List (Addr × Tk)} {x : Str} {rem : List Tk} (G : G1 w h) (R : Rd h r d tl ts (("literal", x) :: rem)) (T : Toks (hideAll h [d]) tl ts) :
    Calls w 3 333 [.ref r] [d] h (fun v h' => (∃ t, v = .str x t) ∧ Rd h' r d tl ts rem) := by
  refine Calls.mk (fs_Reader_literal w _) G R.hD fun A s g tg hz L E ok B x0 => ?_
  have T : Toks hz tl ts := B.hz ▸ T
  have R₁ := R.keeps x0.keeps
  obtain ⟨k, ⟨t, nm, I⟩, e, hk⟩ := id R₁
  refine wpAny_execs_cons (wpAny_If (isTrue_not (isTrue_plain ?_)))
  refine m1_ B (ms_Reader_is_kind w) I (wpAny_Constant_str ⟨⟨_, B.F⟩, ?_⟩)
  refine B.use (is_kind_r B.G1 R₁ (T.keeps B.keep)) fun v h₂ tk₂ B₂ x2 p => ?_
  subst p
  refine wpAny_truthy_bool (wpAny_execs_nil ?_)
  have R₂ := R₁.keeps x2.keeps
  obtain ⟨k, ⟨t, nm, I₂⟩, e, hk⟩ := id R₂
  refine wpAny_execs_cons (wpAny_Return_some (av_ (m0_ B₂ (ms_Reader_take w) I₂ ?_)))
  refine B₂.use (take_c B₂.G1 R₂ (T.keeps B₂.over)) fun v h₃ tk₃ B₃ x3 p => ?_
  obtain ⟨⟨p, hp, rfl, hpt⟩, R₃⟩ := p
  obtain ⟨d', fs, t', I', hw⟩ := worth_of (w := w) (hz := hz) (L := L) (T.keeps B₃.keep) hp
  exact ⟨p.1, 373, d', fs, _, rfl, ⟨_, _, B₃.G, B₃.F⟩, as_Token_worth w, I', hw, rfl, B₃.x, ⟨⟨t', by rw [hpt]; rfl⟩, R₃⟩, ⟨rfl⟩⟩
/-- the reader's object -/
theorem Rd.inst {h : Heap} {r d tl : Addr} {ts rem} (R : Rd h r d tl ts rem) : ∃ k t nm, Inst h 343 r d [("tokens", .ref tl), ("at", .int (k : Int) t), ("named", .ref nm)] := by
  obtain ⟨k, ⟨t, nm, I⟩, _⟩ := R
  exact ⟨_, t, nm, I⟩
noncomputable def after (ws : List Str) (rem : List Tk) : List Tk := if heads ws rem then rem.drop ws.length else rem
theorem after_t {ws rem} (h : heads ws rem = true) : after ws rem = rem.drop ws.length := by unfold after; rw [h]; rfl
theorem after_f {ws rem} (h : heads ws rem = false) : after ws rem = rem := by unfold after; rw [h]; rfl
section
variable {w : World} {A : Around} {E : Value → Shared → Prop} {s σ : Shared} {hz h0 hp : Heap} {L f : Addr} {D : List Addr} {ls : List (Str × Value)} {qn : Str} {sc : Scope} {cd : Value}
  {r d tl : Addr} {ts : List (Addr × Tk)} {rem : List Tk} {x : Str} {xp apos pos cp : Pos} {ck : Nat}
/-- reader.skip(words) -/
theorem rskip_ {y : Str} {Q : Value → Shared → Prop} (ws : List Str) (B : Bd w D σ h0 L hz s.heap ls) (R : Rd s.heap r d tl ts rem) (T : Toks hz tl ts)
    (h : ∀ h' tk', Bd w D σ h0 L hz h' ls → Ext [d] s.heap h' → Rd h' r d tl ts (after ws rem) → Q (.bool (heads ws rem)) (St σ h' tk'))
    (hd : d ∈ D ∨ L < d := by walk_at "DD") (ok : Ok A 4 := by walk_at "OK") (S : Same σ s := by walk_at "SM") (hw : Txt.split y " " = ws := by decide +kernel) (hy : y.length ≤ 1000 := by decide +kernel) (hl : ws.length ≤ 1000 := by decide +kernel)
    (S' : Loc sc x := by walk_at "LOC") (hx : look ls x = some (.ref r) := by walk_at "LK")
    (he : starEach [.Constant (.str y) ck cp] (envOf qn sc L f cd) = [(false, eval (.Constant (.str y) ck cp) (envOf qn sc L f cd))] := by rfl)
    (hc : eval (.Call (.Attribute (.Name x xp) "skip" apos) [.Constant (.str y) ck cp] [] pos) (envOf qn sc L f cd) = (do
      let ov ← eval (.Name x xp) (envOf qn sc L f cd)
      standAt apos.atName
      let (g, first) ← holding [ov] (getMethod ov "skip" (do return (← importBound (.Name x xp) (envOf qn sc L f cd)).getD true))
      callWith pos g first (backTo pos (starEach [.Constant (.str y) ck cp] (envOf qn sc L f cd))) []) := by rfl) :
    wpAny (Mw w) A (eval (.Call (.Attribute (.Name x xp) "skip" apos) [.Constant (.str y) ck cp] [] pos) (envOf qn sc L f cd)) Q E s := by
  obtain ⟨k, t, nm, I⟩ := R.inst
  have hs : ∀ x ∈ [d], x ∈ D ∨ L < x := fun x m => one_mem m (hd)
  refine m1_ B (ms_Reader_skip w) I (wpAny_Constant_str ⟨⟨_, B.F⟩, ?_⟩) S' hx rfl he hc
  refine Bd.use (s := { s with toks := s.toks + 1 }) B (skip_c ws B.G1 R (T.keeps (B.over hs)) hw hy hl) (fun v h' tk' B' x' p => ?_) ⟨by rw [S.eq]⟩ ok hs
  obtain ⟨rfl, p⟩ := p
  exact h h' tk' B' x' p
/-- reader.is_word(words) -/
theorem risword_ {y : Str} {Q : Value → Shared → Prop} (ws : List Str) (B : Bd w D σ h0 L hz s.heap ls) (R : Rd s.heap r d tl ts rem) (T : Toks hz tl ts)
    (h : ∀ h' tk', Bd w D σ h0 L hz h' ls → Ext [] s.heap h' → Q (.bool (heads ws rem)) (St σ h' tk'))
    (ok : Ok A 3 := by walk_at "OK") (S : Same σ s := by walk_at "SM") (hw : Txt.split y " " = ws := by decide +kernel) (hy : y.length ≤ 1000 := by decide +kernel) (hl : ws.length ≤ 1000 := by decide +kernel)
    (S' : Loc sc x := by walk_at "LOC") (hx : look ls x = some (.ref r) := by walk_at "LK")
    (he : starEach [.Constant (.str y) ck cp] (envOf qn sc L f cd) = [(false, eval (.Constant (.str y) ck cp) (envOf qn sc L f cd))] := by rfl)
    (hc : eval (.Call (.Attribute (.Name x xp) "is_word" apos) [.Constant (.str y) ck cp] [] pos) (envOf qn sc L f cd) = (do
      let ov ← eval (.Name x xp) (envOf qn sc L f cd)
      standAt apos.atName
      let (g, first) ← holding [ov] (getMethod ov "is_word" (do return (← importBound (.Name x xp) (envOf qn sc L f cd)).getD true))
      callWith pos g first (backTo pos (starEach [.Constant (.str y) ck cp] (envOf qn sc L f cd))) []) := by rfl) :
    wpAny (Mw w) A (eval (.Call (.Attribute (.Name x xp) "is_word" apos) [.Constant (.str y) ck cp] [] pos) (envOf qn sc L f cd)) Q E s := by
  obtain ⟨k, t, nm, I⟩ := R.inst
  refine m1_ B (ms_Reader_is_word w) I (wpAny_Constant_str ⟨⟨_, B.F⟩, ?_⟩) S' hx rfl he hc
  refine Bd.use (s := { s with toks := s.toks + 1 }) B (is_word_r ws B.G1 R (T.keeps B.keep) hw hy hl) (fun v h' tk' B' x' p => ?_) ⟨by rw [S.eq]⟩ ok nil_mem
  subst p
  exact h h' tk' B' x'
/-- reader.is_kind(kind) -/
theorem riskind_ {y : Str} {Q : Value → Shared → Prop} (B : Bd w D σ h0 L hz s.heap ls) (R : Rd s.heap r d tl ts rem) (T : Toks hz tl ts)
    (h : ∀ h' tk', Bd w D σ h0 L hz h' ls → Ext [] s.heap h' → Q (.bool (kindHd y rem)) (St σ h' tk'))
    (ok : Ok A 2 := by walk_at "OK") (S : Same σ s := by walk_at "SM")
    (S' : Loc sc x := by walk_at "LOC") (hx : look ls x = some (.ref r) := by walk_at "LK")
    (he : starEach [.Constant (.str y) ck cp] (envOf qn sc L f cd) = [(false, eval (.Constant (.str y) ck cp) (envOf qn sc L f cd))] := by rfl)
    (hc : eval (.Call (.Attribute (.Name x xp) "is_kind" apos) [.Constant (.str y) ck cp] [] pos) (envOf qn sc L f cd) = (do
      let ov ← eval (.Name x xp) (envOf qn sc L f cd)
      standAt apos.atName
      let (g, first) ← holding [ov] (getMethod ov "is_kind" (do return (← importBound (.Name x xp) (envOf qn sc L f cd)).getD true))
      callWith pos g first (backTo pos (starEach [.Constant (.str y) ck cp] (envOf qn sc L f cd))) []) := by rfl) :
    wpAny (Mw w) A (eval (.Call (.Attribute (.Name x xp) "is_kind" apos) [.Constant (.str y) ck cp] [] pos) (envOf qn sc L f cd)) Q E s := by
  obtain ⟨k, t, nm, I⟩ := R.inst
  refine m1_ B (ms_Reader_is_kind w) I (wpAny_Constant_str ⟨⟨_, B.F⟩, ?_⟩) S' hx rfl he hc
  refine Bd.use (s := { s with toks := s.toks + 1 }) B (is_kind_r B.G1 R (T.keeps B.keep)) (fun v h' tk' B' x' p => ?_) ⟨by rw [S.eq]⟩ ok nil_mem
  subst p
  exact h h' tk' B' x'
/-- a method of the reader without arguments -/
theorem rm0_ {m : Str} {g : Addr} {n : Nat} {D' : List Addr} {post : Value → Heap → Prop} {Q : Value → Shared → Prop} (B : Bd w D σ h0 L hz s.heap ls) (R : Rd s.heap r d tl ts rem) (SM : MethS w 343 m g) (C : Calls w n g [.ref r] D' s.heap post)
    (h : ∀ v h' tk', Bd w D σ h0 L hz h' ls → Ext D' s.heap h' → post v h' → Q v (St σ h' tk'))
    (hs : ∀ d ∈ D', d ∈ D ∨ L < d := by walk_at "SUB") (ok : Ok A n := by walk_at "OK") (S : Same σ s := by walk_at "SM") (hl : (["tokens", "at", "named"] : List Str).contains m = false := by decide +kernel)
    (S' : Loc sc x := by walk_at "LOC") (hx : look ls x = some (.ref r) := by walk_at "LK")
    (hc : eval (.Call (.Attribute (.Name x xp) m apos) [] [] pos) (envOf qn sc L f cd) = (do
      let ov ← eval (.Name x xp) (envOf qn sc L f cd)
      standAt apos.atName
      let (g, first) ← holding [ov] (getMethod ov m (do return (← importBound (.Name x xp) (envOf qn sc L f cd)).getD true))
      callWith pos g first (backTo pos (starEach [] (envOf qn sc L f cd))) []) := by rfl) :
    wpAny (Mw w) A (eval (.Call (.Attribute (.Name x xp) m apos) [] [] pos) (envOf qn sc L f cd)) Q E s := by
  obtain ⟨k, t, nm, I⟩ := R.inst
  refine m0_ B SM I (Bd.use (s := s) B C h S ok hs) S' hx ?_ hc
  simp only [List.contains_cons, Bool.or_eq_false_iff] at hl
  simp only [List.lookup_cons, hl.1, hl.2.1, hl.2.2.1]
  rfl
end
noncomputable def nameHd : List Tk → Prop
  | [] => False
  | t :: _ => t.1 = "word" ∧ resd t.2 = false
noncomputable def nameB : List Tk → Bool
  | [] => false
  | t :: _ => (t.1 == "word") && !resd t.2
theorem is_name_c {w : World} {h : Heap} {r d tl : Addr} {ts : List (Addr × Tk)} {rem : List Tk} (G : G1 w h) (R : Rd h r d tl ts rem) (T : Toks h tl ts) :
    Calls w 3 269 [.ref r] [] h (fun v _ => v = .bool (nameB rem)) := by
  refine Calls.mk (fs_Reader_is_name_d w _) G nil_mem fun A s g tg hz L E ok B x0 => ?_
  have T₁ := T.keeps x0.keeps
  have R₁ := R.keeps x0.keeps
  obtain ⟨k, R₁, e, hk⟩ := R₁
  obtain ⟨t, nm, I⟩ := id R₁
  refine wpAny_execs_cons (wpAny_Return_some (BoolOp_and ?_))
  refine m2_ B (ms_Reader_is_kind w) I (wpAny_Constant_str (n_ B ⟨⟨_, B.F⟩, ?_⟩))
  refine B.use (is_kind_j (j := 0) B.G1 R₁ T₁ (by omega)) fun v h₂ tk₂ B₂ x2 p => ?_
  subst p
  refine wpAny_truthy_bool ?_
  rw [show k + 0 = k from rfl, kindAt_is e]
  cases hh : kindHd "word" rem with
  | false =>
    refine ⟨B₂.x, ?_, by walk_at "SM"⟩
    show Value.bool false = _
    unfold kindHd at hh
    unfold nameB
    cases rem with
    | nil => rfl
    | cons t r =>
      show Value.bool false = Value.bool ((t.1 == ("word" : Str)) && !resd t.2)
      rw [show (t.1 == ("word" : Str)) = false from hh]; rfl
  | true =>
    cases rem with
    | nil => cases hh
    | cons tok rem =>
      have hh : (tok.1 == ("word" : Str)) = true := hh
      refine BoolOp_one (wpAny_UnaryOp ?_)
      refine f1_ B₂ (gl_is_reserved w) (kp_is_reserved w) (av_ ?_)
      refine m1_ B₂ (ms_Reader_peek w) (I.keeps x2.keeps) (n_ B₂ ⟨⟨_, B₂.F⟩, ?_⟩)
      refine B₂.use (peek_j (j := 0) B₂.G1 (R₁.keeps x2.keeps) (T₁.keeps x2.keeps) (by omega)) fun v h₃ tk₃ B₃ x3 e3 => ?_
      have p' : ahead ts (tok :: rem) v := e3 ▸ ahead_is e
      clear e3
      obtain ⟨p, hp, rfl, hpt⟩ := p'
      obtain ⟨d', t1, t2, atv, b, I', hv⟩ := ((T₁.keeps x2.keeps).keeps x3.keeps).tk p hp
      refine ⟨p.1, 373, d', _, _, rfl, ⟨_, _, B₃.G, B₃.F⟩, as_Token_worth w, I', rfl, rfl, ⟨_, B₃.F⟩, ?_⟩
      refine Bd.use (s := St s h₃ (tk₃ + 1)) B₃ (is_reserved_c B₃.G1 (T.sh p hp)) fun v h₄ tk₄ B₄ x4 q => ?_
      subst q
      refine not_of (wpAny_truthy_bool ⟨B₄.x, ?_, by walk_at "SM"⟩)
      show Value.bool _ = Value.bool ((tok.1 == ("word" : Str)) && !resd tok.2)
      rw [hpt, hh]; rfl
/-- reader.name() -/
theorem name_c {w : World} {h : Heap} {r d tl : Addr} {ts : List (Addr × Tk)} {x : Str} {rem : List Tk} (G : G1 w h) (R : Rd h r d tl ts (("word", x) :: rem)) (T : Toks (hideAll h [d]) tl ts) (hn : resd x = false) :
    Calls w 4 276 [.ref r] [d] h (fun v h' => (∃ t, v = .str x t) ∧ Rd h' r d tl ts rem) := by
  refine Calls.mk (fs_Reader_name w _) G R.hD fun A s g tg hz L E ok B x0 => ?_
  have T : Toks hz tl ts := B.hz ▸ T
  have R₁ := R.keeps x0.keeps
  refine wpAny_execs_cons (wpAny_If (isTrue_not (isTrue_plain ?_)))
  refine rm0_ B R₁ (ms_Reader_is_name w) (is_name_c B.G1 R₁ (T.keeps B.keep)) fun v h₂ tk₂ B₂ x2 p => ?_
  subst p
  refine wpAny_truthy_bool ?_
  have e1 : nameB (("word", x) :: rem) = true := by show (("word" : Str) == "word" && !resd x) = true; rw [hn]; rfl
  rw [e1]
  refine wpAny_execs_nil ?_
  have R₂ := R₁.keeps x2.keeps
  refine wpAny_execs_cons (wpAny_Return_some (av_ ?_))
  refine rm0_ B₂ R₂ (ms_Reader_take w) (take_c B₂.G1 R₂ (T.keeps B₂.over)) fun v h₃ tk₃ B₃ x3 p => ?_
  obtain ⟨⟨p, hp, rfl, hpt⟩, R₃⟩ := p
  obtain ⟨d', fs, t', I', hw⟩ := worth_of (w := w) (hz := hz) (L := L) (T.keeps B₃.keep) hp
  exact ⟨p.1, 373, d', fs, _, rfl, ⟨_, _, B₃.G, B₃.F⟩, as_Token_worth w, I', hw, rfl, B₃.x, ⟨⟨t', by rw [hpt]; rfl⟩, R₃⟩, ⟨rfl⟩⟩
noncomputable def signB (y : Str) : List Tk → Bool
  | [] => false
  | t :: _ => (t.1 == "sign") && t.2 == y
theorem is_sign_c {w : World} {h : Heap} {r d tl : Addr} {t1 : Tok} {y : Str} {ts : List (Addr × Tk)} {rem : List Tk} (G : G1 w h) (R : Rd h r d tl ts rem) (T : Toks h tl ts) :
    Calls w 3 291 [.ref r, .str y t1] [] h (fun v _ => v = .bool (signB y rem)) := by
  refine Calls.mk (fs_Reader_is_sign_d w _ _) G nil_mem fun A s g tg hz L E ok B x0 => ?_
  have T₁ := T.keeps x0.keeps
  have R₁ := R.keeps x0.keeps
  obtain ⟨k, R₁, e, hk⟩ := R₁
  obtain ⟨t, nm, I⟩ := id R₁
  refine wpAny_execs_cons (wpAny_Return_some (BoolOp_and ?_))
  refine m2_ B (ms_Reader_is_kind w) I (wpAny_Constant_str (n_ B ⟨⟨_, B.F⟩, ?_⟩))
  refine B.use (is_kind_j (j := 0) B.G1 R₁ T₁ (by omega)) fun v h₂ tk₂ B₂ x2 p => ?_
  subst p
  refine wpAny_truthy_bool ?_
  rw [show k + 0 = k from rfl, kindAt_is e]
  cases hh : kindHd "sign" rem with
  | false =>
    refine ⟨B₂.x, ?_, by walk_at "SM"⟩
    show Value.bool false = _
    unfold kindHd at hh
    unfold signB
    cases rem with
    | nil => rfl
    | cons t r =>
      show Value.bool false = Value.bool ((t.1 == ("sign" : Str)) && t.2 == y)
      rw [show (t.1 == ("sign" : Str)) = false from hh]; rfl
  | true =>
    cases rem with
    | nil => cases hh
    | cons tok rem =>
      have hh : (tok.1 == ("sign" : Str)) = true := hh
      refine BoolOp_one (wpAny_Compare1 (av_ ?_))
      refine m1_ B₂ (ms_Reader_peek w) (I.keeps x2.keeps) (n_ B₂ ⟨⟨_, B₂.F⟩, ?_⟩)
      refine B₂.use (peek_j (j := 0) B₂.G1 (R₁.keeps x2.keeps) (T₁.keeps x2.keeps) (by omega)) fun v h₃ tk₃ B₃ x3 e3 => ?_
      have p' : ahead ts (tok :: rem) v := e3 ▸ ahead_is e
      clear e3
      obtain ⟨p, hp, rfl, hpt⟩ := p'
      obtain ⟨d', t1, t2, atv, b, I', hv⟩ := ((T₁.keeps x2.keeps).keeps x3.keeps).tk p hp
      refine ⟨p.1, 373, d', _, _, rfl, ⟨_, _, B₃.G, B₃.F⟩, as_Token_worth w, I', rfl, rfl, ?_⟩
      refine n_ B₃ (eq_str ⟨B₃.x, ?_, by walk_at "SM"⟩)
      show Value.bool _ = Value.bool ((tok.1 == ("sign" : Str)) && tok.2 == y)
      rw [hpt, hh]; rfl
noncomputable def afterSign (y : Str) (rem : List Tk) : List Tk := if signB y rem then rem.tail else rem
theorem skip_sign_c {w : World} {h : Heap} {r d tl : Addr} {t1 : Tok} {y : Str} {ts : List (Addr × Tk)} {rem : List Tk} (G : G1 w h) (R : Rd h r d tl ts rem) (T : Toks (hideAll h [d]) tl ts) :
    Calls w 4 298 [.ref r, .str y t1] [d] h (fun v h' => v = .bool (signB y rem) ∧ Rd h' r d tl ts (afterSign y rem)) := by
  refine Calls.mk (fs_Reader_skip_sign w _ _) G R.hD fun A s g tg hz L E ok B x0 => ?_
  have T : Toks hz tl ts := B.hz ▸ T
  have R₁ := R.keeps x0.keeps
  obtain ⟨k, t, nm, I⟩ := R₁.inst
  refine wpAny_execs_cons (wpAny_If (isTrue_not (isTrue_plain ?_)))
  refine m1_ B (ms_Reader_is_sign w) I (n_ B ⟨⟨_, B.F⟩, ?_⟩)
  refine B.use (is_sign_c B.G1 R₁ (T.keeps B.keep)) fun v h₂ tk₂ B₂ x2 p => ?_
  subst p
  refine wpAny_truthy_bool ?_
  have R₂ := R₁.keeps x2.keeps
  unfold afterSign
  cases hh : signB y rem with
  | false => exact wpAny_execs_cons (wpAny_Return_some (wpAny_Constant_bool ⟨B₂.x, ⟨rfl, R₂⟩, by walk_at "SM"⟩))
  | true =>
    cases rem with
    | nil => cases hh
    | cons tok rem =>
      obtain ⟨k, ⟨t, nm, I₂⟩, e, hk⟩ := id R₂
      refine wpAny_execs_nil (wpAny_execs_cons (plainObj_wpAny_Assign_Attribute (wpAny_BinOp (a_ B₂ (as_Reader_at w) I₂ (wpAny_Constant_int (add_int ?_))))))
      have hrL : r ≠ L := Nat.ne_of_lt (B.L0 ▸ R.lt.1)
      refine n_ B₂ (sa_ B₂ (ss_Reader_at w) I₂ (.inl (.head _)) hrL fun h₄ tk₄ B₄ x4 I₄ => ?_)
      refine wpAny_execs_cons (wpAny_Return_some (wpAny_Constant_bool ⟨B₄.x, ⟨rfl, ?_⟩, by walk_at "SM"⟩))
      rw [put_at] at I₄
      exact ⟨k + 1, ⟨_, _, I₄⟩, drop_succ e, rem_le e T.few hk (Nat.succ_le_succ (Nat.zero_le _))⟩
/-- where the sign is there -/
theorem need_sign_c {w : World} {h : Heap} {r d tl : Addr} {t1 : Tok} {y : Str} {ts : List (Addr × Tk)} {rem : List Tk} (G : G1 w h) (R : Rd h r d tl ts (("sign", y) :: rem)) (T : Toks (hideAll h [d]) tl ts) :
    Calls w 5 305 [.ref r, .str y t1] [d] h (fun v h' => Rd h' r d tl ts rem) := by
  refine Calls.mk (fs_Reader_need_sign w _ _) G R.hD fun A s g tg hz L E ok B x0 => ?_
  have T : Toks hz tl ts := B.hz ▸ T
  have R₁ := R.keeps x0.keeps
  obtain ⟨k, t, nm, I⟩ := R₁.inst
  have hy : signB y (("sign", y) :: rem) = true := by
    show (("sign" : Str) == "sign" && y == y) = true
    simp
  refine wpAny_execs_cons (wpAny_If (isTrue_not (isTrue_plain ?_)))
  refine m1_ B (ms_Reader_skip_sign w) I (n_ B ⟨⟨_, B.F⟩, ?_⟩)
  refine B.use (skip_sign_c B.G1 R₁ (T.keeps B.over)) fun v h₂ tk₂ B₂ x2 p => ?_
  obtain ⟨rfl, p⟩ := p
  rw [hy]
  unfold afterSign at p
  rw [hy] at p
  exact wpAny_truthy_bool (wpAny_execs_nil (wpAny_execs_nil ⟨B₂.x, p, by walk_at "SM"⟩))
theorem need_c {w : World} {h : Heap} {r d tl : Addr} {t1 : Tok} {y : Str} (ws : List Str) {ts : List (Addr × Tk)} {rem : List Tk} (G : G1 w h) (R : Rd h r d tl ts rem) (T : Toks (hideAll h [d]) tl ts) (hh : heads ws rem = true)
    (hw : Txt.split y " " = ws) (hx : y.length ≤ 1000 := by decide +kernel) (hl : ws.length ≤ 1000 := by decide +kernel) :
    Calls w 5 247 [.ref r, .str y t1] [d] h (fun v h' => Rd h' r d tl ts (rem.drop ws.length)) := by
  refine Calls.mk (fs_Reader_need w _ _) G R.hD fun A s g tg hz L E ok B x0 => ?_
  have T : Toks hz tl ts := B.hz ▸ T
  have R₁ := R.keeps x0.keeps
  obtain ⟨k, t, nm, I⟩ := R₁.inst
  refine wpAny_execs_cons (wpAny_If (isTrue_not (isTrue_plain ?_)))
  refine m1_ B (ms_Reader_skip w) I (n_ B ⟨⟨_, B.F⟩, ?_⟩)
  refine B.use (skip_c ws B.G1 R₁ (T.keeps B.over) hw hx hl) fun v h₂ tk₂ B₂ x2 p => ?_
  obtain ⟨rfl, p⟩ := p
  rw [hh]
  rw [hh] at p
  exact wpAny_truthy_bool (wpAny_execs_nil (wpAny_execs_nil ⟨B₂.x, p, by walk_at "SM"⟩))
theorem while_ {w : World} {A : Around} {s σ : Shared} {R : Result → Shared → Prop} {env : Env} {test : PySem.Expr} {body : List Stmt} (P : Nat → Heap → Prop) (n : Nat) (h0 : P n s.heap)
    (turn : ∀ n h t E', P n h → wpAny (Mw w) A (isTrue test env (eval test env)) (fun b s₂ => if b then wpAny (Mw w) A (execs body env) (fun f s₃ => match f with
          | .next | .cont => Same σ s₃ ∧ ∃ m, m < n ∧ P m s₃.heap
          | .brk => R (.ok .next) s₃
          | .ret v => R (.ok (.ret v)) s₃) E' s₂ else R (.ok .next) s₂) E' (St σ h t)) (S : Same σ s := by walk_at "SM") : codeAny (Mw w) A (.whileLoop test body [] env) R s := by
  refine codeAny_whileLoop (fun n s => Same σ s ∧ P n s.heap) (fun n s hI => ?_) n ⟨S, h0⟩
  obtain ⟨S, p⟩ := hI
  have := turn n s.heap s.toks (notedBy (Mw w) A env fun e s' => R (.error e) s') p
  rw [← S.is] at this
  refine wpAny_mono this (fun b s₂ q => ?_) fun _ _ x => x
  cases b with
  | false => exact wpAny_execs_nil q
  | true =>
    refine wpAny_mono q (fun f s₃ q => ?_) fun _ _ x => x
    cases f with
    | next => exact let ⟨S, m, hm, p⟩ := q; ⟨m, hm, S, p⟩
    | cont => exact let ⟨S, m, hm, p⟩ := q; ⟨m, hm, S, p⟩
    | brk => exact q
    | ret v => exact q

structure Spec where
  name : Str
  path : Str
  org : Str
  acc : Str
  key : Str
  alts : List (Str × Bool)
  rel : Str
  st : Str
noncomputable def specL (n p o a k al rk st is rc : Value) : List (Str × Value) := [("name", n), ("path", p), ("organization", o), ("access", a), ("key", k), ("alternates", al), ("relative_key", rk), ("status", st), ("is_sort", is), ("records", rc)]
section
variable (n p o a k al rk st is rc v : Value)
theorem put_path : put (specL n p o a k al rk st is rc) "path" v = specL n v o a k al rk st is rc := by kernel_rfl
theorem put_org : put (specL n p o a k al rk st is rc) "organization" v = specL n p v a k al rk st is rc := by kernel_rfl
theorem put_acc : put (specL n p o a k al rk st is rc) "access" v = specL n p o v k al rk st is rc := by kernel_rfl
theorem put_key : put (specL n p o a k al rk st is rc) "key" v = specL n p o a v al rk st is rc := by kernel_rfl
theorem put_alts : put (specL n p o a k al rk st is rc) "alternates" v = specL n p o a k v rk st is rc := by kernel_rfl
theorem put_rel : put (specL n p o a k al rk st is rc) "relative_key" v = specL n p o a k al v st is rc := by kernel_rfl
theorem put_st : put (specL n p o a k al rk st is rc) "status" v = specL n p o a k al rk v is rc := by kernel_rfl
end
/-- a dict stands there -/
noncomputable def isDict (h : Heap) (d : Addr) : Prop := ∃ o es n, h.get? d = some o ∧ o.data = .dict es n
theorem Inst.isDict {h : Heap} {C x d : Addr} {fs} (I : Inst h C x d fs) : Mine.isDict h d := by
  obtain ⟨_, _, _, es, n, e, _⟩ := I
  exact ⟨_, _, _, e, rfl⟩
theorem Rd.isDict {h : Heap} {r d tl : Addr} {ts rem} (R : Rd h r d tl ts rem) : Mine.isDict h d := by
  obtain ⟨_, _, _, I⟩ := R.inst; exact I.isDict
theorem Bd.isDict {w D σ h0 L hz h ls} (B : Bd w D σ h0 L hz h ls) : Mine.isDict h L := by
  obtain ⟨o, es, ep, e, hd, _⟩ := B.F.ns
  exact ⟨o, es, ep, e, hd⟩
theorem tup_ext {h h' : Heap} {D : List Addr} {a : Addr} {items : Array Value} (T : IsTup h a items) (x : Ext D h h') (hD : ∀ d ∈ D, isDict h d) : IsTup h' a items := by
  obtain ⟨o, ho, hc, n, hd⟩ := T
  refine ⟨o, x _ _ ho fun m => ?_, hc, n, hd⟩
  obtain ⟨o', es, n', e, q⟩ := hD a m
  rw [ho] at e; cases e
  rw [hd] at q; cases q
noncomputable def Pair (h : Heap) (v : Value) (a : Str × Bool) : Prop := ∃ p t, v = .ref p ∧ IsTup h p #[.str a.1 t, .bool a.2]
inductive Pairs (h : Heap) : List Value → List (Str × Bool) → Prop
  | nil : Pairs h [] []
  | cons {v a vs as} : Pair h v a → Pairs h vs as → Pairs h (v :: vs) (a :: as)
noncomputable def Alts (h : Heap) (al : Addr) (alts : List (Str × Bool)) : Prop := ∃ vs : List Value, IsTup h al vs.toArray ∧ Pairs h vs alts
theorem Pairs.ext {h h' : Heap} {D : List Addr} {vs as} (P : Pairs h vs as) (x : Ext D h h') (hD : ∀ d ∈ D, isDict h d) : Pairs h' vs as := by
  induction P with
  | nil => exact .nil
  | cons p _ ih =>
    obtain ⟨a, t, rfl, T⟩ := p
    exact .cons ⟨a, t, rfl, tup_ext T x hD⟩ ih
theorem Alts.ext {h h' : Heap} {D : List Addr} {al as} (P : Alts h al as) (x : Ext D h h') (hD : ∀ d ∈ D, isDict h d) : Alts h' al as := by
  obtain ⟨vs, T, P⟩ := P
  exact ⟨vs, tup_ext T x hD, P.ext x hD⟩
noncomputable def SpecAt (h : Heap) (sp sd : Addr) (S : Spec) : Prop := ∃ t1 t2 t3 t4 t5 t6 t7 al rc, Inst h 88 sp sd (specL (.str S.name t1) (.str S.path t2) (.str S.org t3) (.str S.acc t4) (.str S.key t5) (.ref al) (.str S.rel t6) (.str S.st t7) (.bool false) (.ref rc)) ∧ Alts h al S.alts ∧ IsTup h rc #[]
theorem SpecAt.ext {h h' : Heap} {D : List Addr} {sp sd : Addr} {S : Spec} (P : SpecAt h sp sd S) (x : Ext D h h') (hD : ∀ d ∈ D, isDict h d) (hsd : sd ∉ D) : SpecAt h' sp sd S := by
  obtain ⟨t1, t2, t3, t4, t5, t6, t7, al, rc, I, a, b⟩ := P
  refine ⟨t1, t2, t3, t4, t5, t6, t7, al, rc, I.ext x (fun m => ?_) hsd, a.ext x hD, tup_ext b x hD⟩
  obtain ⟨o', es, n', e, q⟩ := hD sp m
  rw [I.2.2.1] at e; cases e; cases q
theorem SpecAt.isDict {h : Heap} {sp sd : Addr} {S : Spec} (P : SpecAt h sp sd S) : Mine.isDict h sd := by
  obtain ⟨t1, t2, t3, t4, t5, t6, t7, al, rc, I, a, b⟩ := P
  exact I.isDict
theorem SpecAt.lt {h : Heap} {sp sd : Addr} {S : Spec} (P : SpecAt h sp sd S) : sp < h.objs.size ∧ 409 ≤ sd ∧ sd < h.objs.size := by
  obtain ⟨t1, t2, t3, t4, t5, t6, t7, al, rc, I, a, b⟩ := P
  exact ⟨I.lt1, I.2.1, I.lt2⟩
theorem SpecAt.ne {h : Heap} {sp sd r d tl : Addr} {S : Spec} {ts rem} (P : SpecAt h sp sd S) (R : Rd h r d tl ts rem) : sd ≠ d := by
  obtain ⟨t1, t2, t3, t4, t5, t6, t7, al, rc, I, a, b⟩ := P
  obtain ⟨_, _, _, J⟩ := R.inst
  exact I.apart J (by intro e; have := congrArg List.length e; cases this)
theorem Rd.ext' {h h' : Heap} {r d tl : Addr} {ts rem} {D : List Addr} (R : Rd h r d tl ts rem) (x : Ext D h h') (hD : ∀ d ∈ D, Mine.isDict h d) (hd : d ∉ D) : Rd h' r d tl ts rem := by
  refine R.ext x (fun m => ?_) hd
  obtain ⟨_, _, _, I⟩ := R.inst
  obtain ⟨o', es, n', e, q⟩ := hD r m
  rw [I.2.2.1] at e; cases e; cases q
theorem one_dict {h : Heap} {d : Addr} (q : isDict h d) : ∀ x ∈ [d], isDict h x := fun x m => one_mem m (q)
theorem two_dict {h : Heap} {d e : Addr} (q : isDict h d) (q2 : isDict h e) : ∀ x ∈ [d, e], isDict h x := fun x m => by rcases List.mem_cons.mp m with rfl | m; exact q; exact one_dict q2 x m
/-- an attribute of the specification is set -/
theorem sset_ {w : World} {A : Around} {E : Value → Shared → Prop} {s σ : Shared} {hz h0 : Heap} {L : Addr} {D : List Addr} {ls : List (Str × Value)} {sp sd r d tl : Addr} {S S' : Spec} {ts rem} {name : Str} {v : Value} {Q : Unit → Shared → Prop} (B : Bd w D σ h0 L hz s.heap ls) (SA : SetS w 88 name)
    (P : SpecAt s.heap sp sd S) (R : Rd s.heap r d tl ts rem) (hsd : sd ≠ L ∧ sp ≠ L ∧ d ≠ L) (hd : sd ∈ D ∨ L < sd)
    (hp : ∀ h' t1 t2 t3 t4 t5 t6 t7 al rc, Alts h' al S.alts → IsTup h' rc #[] → Inst h' 88 sp sd (put (specL (.str S.name t1) (.str S.path t2) (.str S.org t3) (.str S.acc t4) (.str S.key t5) (.ref al) (.str S.rel t6) (.str S.st t7) (.bool false) (.ref rc)) name v) → SpecAt h' sp sd S')
    (h : ∀ h' tk', Bd w D σ h0 L hz h' ls → Ext [L, sd] s.heap h' → Rd h' r d tl ts rem → SpecAt h' sp sd S' → Q () (St σ h' tk')) (S : Same σ s := by walk_at "SM") :
    wpAny (Mw w) A (setAttr (.ref sp) name v) Q E s := by
  have hD : ∀ x ∈ [L, sd], isDict s.heap x := two_dict B.isDict P.isDict
  have hne := P.ne R
  obtain ⟨t1, t2, t3, t4, t5, t6, t7, al, rc, I, a, b⟩ := P
  refine sa_ B SA I hd hsd.2.1 (fun h' tk' B' x I' => h h' tk' B' x (R.ext' x hD (nin2 hsd.2.2 hne.symm)) (hp _ _ _ _ _ _ _ _ _ _ (a.ext x hD) (tup_ext b x hD) I')) S
theorem SpecAt.sk {h h' : Heap} {sp sd r d tl : Addr} {S : Spec} {ts rem} (P : SpecAt h sp sd S) (R : Rd h r d tl ts rem) (x : Ext [d] h h') : SpecAt h' sp sd S := P.ext x (one_dict R.isDict) (nin1 (P.ne R))
theorem SpecAt.kp {h h' : Heap} {sp sd : Addr} {S : Spec} (P : SpecAt h sp sd S) (x : Ext [] h h') : SpecAt h' sp sd S := P.ext x nil_mem nil_not
theorem hD2 {h : Heap} {sp sd r d tl : Addr} {S : Spec} {ts rem} (P : SpecAt h sp sd S) (R : Rd h r d tl ts rem) : ∀ x ∈ [d, sd], 409 ≤ x ∧ x < h.objs.size := fun x m => by
  rcases List.mem_cons.mp m with rfl | m
  · exact R.lt.2
  · rcases List.mem_cons.mp m with rfl | m
    · exact P.lt.2
    · cases m
theorem nL {h : Heap} {L sp sd r d tl : Addr} {S : Spec} {ts rem} (P : SpecAt h sp sd S) (R : Rd h r d tl ts rem) (e : L = h.objs.size) : sd ≠ L ∧ sp ≠ L ∧ d ≠ L :=
  ⟨Nat.ne_of_lt (e ▸ P.lt.2.2), Nat.ne_of_lt (e ▸ P.lt.1), Nat.ne_of_lt (e ▸ R.lt.2.2)⟩
noncomputable def litsP : Str → List Tk → Str × List Tk
  | p, [] => (p, [])
  | p, t :: r => if t.1 == "literal" then litsP t.2 r else (p, t :: r)
noncomputable def assignP (rem : List Tk) : Option (Str × List Tk) := match after ["TO"] rem with
  | [] => none
  | t :: r => if t.1 == "literal" || t.1 == "word" then some (litsP t.2 r) else none
theorem set_path {sp sd : Addr} {S : Spec} (p : Str) (t : Tok) : ∀ h' t1 t2 t3 t4 t5 t6 t7 al rc, Alts h' al S.alts → IsTup h' rc #[] → Inst h' 88 sp sd (put (specL (.str S.name t1) (.str S.path t2) (.str S.org t3) (.str S.acc t4) (.str S.key t5) (.ref al) (.str S.rel t6) (.str S.st t7) (.bool false) (.ref rc)) "path" (.str p t)) → SpecAt h' sp sd { S with path := p } := by
  intro h' t1 t2 t3 t4 t5 t6 t7 al rc a b I
  rw [put_path] at I
  exact ⟨_, _, _, _, _, _, _, _, _, I, a, b⟩
theorem read_assign_c {w : World} {h : Heap} {r d tl sp sd : Addr} {ts : List (Addr × Tk)} {rem rem' : List Tk} {S : Spec} {p : Str} (G : G1 w h) (R : Rd h r d tl ts rem) (P : SpecAt h sp sd S) (T : Toks (hideAll h [d, sd]) tl ts) (hh : assignP rem = some (p, rem')) :
    Calls w 6 106 [.ref r, .ref sp] [d, sd] h (fun _ h' => Rd h' r d tl ts rem' ∧ SpecAt h' sp sd { S with path := p }) := by
  refine Calls.mk (fs_read_assign w _ _) G (hD2 P R) fun A s g tg hz L E ok B x0 => ?_
  have T : Toks hz tl ts := B.hz ▸ T
  have hL := nL P R B.L0
  have R₁ := R.keeps x0.keeps
  have P₁ := P.kp x0
  refine wpAny_execs_cons (wpAny_Expr_any (rskip_ ["TO"] B R₁ T fun h₂ tk₂ B₂ x2 R₂ => ?_))
  have P₂ := P₁.sk R₁ x2
  unfold assignP at hh
  cases hr : after ["TO"] rem with
  | nil => rw [hr] at hh; cases hh
  | cons t rm =>
  rw [hr] at hh R₂
  have hh : (if t.1 == "literal" || t.1 == "word" then some (litsP t.2 rm) else none) = some (p, rem') := hh
  cases hk : (t.1 == ("literal" : Str) || t.1 == ("word" : Str)) with
  | false => rw [hk] at hh; cases hh
  | true =>
  rw [hk] at hh
  have hh : litsP t.2 rm = (p, rem') := by simpa using hh
  refine wpAny_execs_cons (plainObj_wpAny_Assign_Attribute (mono_q (fun v s' => ∃ h' tk' t', s' = St s h' tk' ∧ v = .str t.2 t' ∧ Bd w [d, sd] s h L hz h' [("spec", .ref sp), ("reader", .ref r)] ∧ Rd h' r d tl ts rm ∧ SpecAt h' sp sd S) ?_ ?_))
  · refine wpAny_IfExp (isTrue_plain (riskind_ B₂ R₂ T fun h₃ tk₃ B₃ x3 => wpAny_truthy_bool ?_))
    have R₃ := R₂.keeps x3.keeps
    have P₃ := P₂.kp x3
    cases hl : kindHd "literal" (t :: rm) with
    | true =>
      have e1 : t = ((("literal" : Str), t.2) : Tk) := Prod.ext (eq_of_beq (show (t.1 == ("literal" : Str)) = true from hl)) rfl
      rw [e1] at R₃
      refine rm0_ B₃ R₃ (ms_Reader_literal w) (literal_c B₃.G1 R₃ (T.keeps (B₃.over (D' := [d])))) fun v h₄ tk₄ B₄ x4 q => ?_
      obtain ⟨⟨t', rfl⟩, R₄⟩ := q
      exact ⟨h₄, tk₄, t', rfl, rfl, B₄, R₄, P₃.sk R₃ x4⟩
    | false =>
      have e0 : (t.1 == ("literal" : Str)) = false := hl
      have e1 : t = ((("word" : Str), t.2) : Tk) := Prod.ext (eq_of_beq (by rw [e0] at hk; exact hk)) rfl
      rw [e1] at R₃
      refine rm0_ B₃ R₃ (ms_Reader_word w) (word_c B₃.G1 R₃ (T.keeps (B₃.over (D' := [d])))) fun v h₄ tk₄ B₄ x4 q => ?_
      obtain ⟨⟨t', rfl⟩, R₄⟩ := q
      exact ⟨h₄, tk₄, t', rfl, rfl, B₄, R₄, P₃.sk R₃ x4⟩
  · rintro v s' ⟨h₃, tk₃, t', rfl, rfl, B₃, R₃, P₃⟩
    refine n_ B₃ (sset_ B₃ (ss_FileSpec_path w) P₃ R₃ hL (.inl (.tail _ (.head _))) (set_path _ _) fun h₄ tk₄ B₄ x4 R₄ P₄ => ?_)
    refine wpAny_execs_cons (wpAny_While (while_ (σ := s) (fun n h' => ∃ rem p0, n = rem.length ∧ litsP p0 rem = (p, rem') ∧ Bd w [d, sd] s h L hz h' [("spec", .ref sp), ("reader", .ref r)] ∧ Rd h' r d tl ts rem ∧ SpecAt h' sp sd { S with path := p0 }) _ ⟨rm, t.2, rfl, hh, B₄, R₄, P₄⟩ fun n h₅ tk₅ E' I => ?_))
    obtain ⟨rem, p0, rfl, hp, B₅, R₅, P₅⟩ := I
    refine isTrue_plain (riskind_ B₅ R₅ T fun h₆ tk₆ B₆ x6 => wpAny_truthy_bool ?_)
    have R₆ := R₅.keeps x6.keeps
    have P₆ := P₅.kp x6
    cases rem with
    | nil =>
      injection hp with e1 e2
      subst e1 e2
      exact wpAny_execs_nil ⟨B₆.x, ⟨R₆, P₆⟩, by walk_at "SM"⟩
    | cons t rm =>
      cases hl : kindHd "literal" (t :: rm) with
      | false =>
        have e0 : (t.1 == ("literal" : Str)) = false := hl
        unfold litsP at hp
        rw [e0] at hp
        injection hp with e1 e2
        subst e1 e2
        exact wpAny_execs_nil ⟨B₆.x, ⟨R₆, P₆⟩, by walk_at "SM"⟩
      | true =>
        have e0 : (t.1 == ("literal" : Str)) = true := hl
        have e1 : t = ((("literal" : Str), t.2) : Tk) := Prod.ext (eq_of_beq (show (t.1 == ("literal" : Str)) = true from hl)) rfl
        unfold litsP at hp
        rw [e0] at hp
        rw [e1] at R₆
        refine wpAny_execs_cons (plainObj_wpAny_Assign_Attribute ?_)
        refine rm0_ B₆ R₆ (ms_Reader_literal w) (literal_c B₆.G1 R₆ (T.keeps (B₆.over (D' := [d])))) fun v h₇ tk₇ B₇ x7 q => ?_
        obtain ⟨⟨t', rfl⟩, R₇⟩ := q
        refine n_ B₇ (sset_ B₇ (ss_FileSpec_path w) (P₆.sk R₆ x7) R₇ hL (.inl (.tail _ (.head _))) (set_path _ _) fun h₈ tk₈ B₈ x8 R₈ P₈ => ?_)
        exact wpAny_execs_nil ⟨by walk_at "SM", rm.length, Nat.lt_succ_self _, rm, t.2, rfl, hp, B₈, R₈, P₈⟩
theorem for_tup {w : World} {A : Around} {s σ : Shared} {R : Result → Shared → Prop} {env : Env} {x : Str} {px : Pos} {body : List Stmt} {it ax : Addr} {items : Array Value} (P : Nat → Heap → Prop) (hh : A.handled = none) (h0 : P 0 s.heap)
    (turn : ∀ i h t, P i h → h.IsTupleIter it ax i ∧ h.IsTuple ax items ∧ (items.size ≤ i → ∀ h', Ext [it] h h' → R (.ok .next) (St σ h' t)) ∧
      ∀ v E', items[i]? = some v → ∀ h', Ext [it] h h' → h'.IsTupleIter it ax (i + 1) →
        wpAny (Mw w) A (storeName env x v) (fun _ s₂ => wpAny (Mw w) A (execs body env) (fun f s₃ => match f with
          | .next | .cont => Same σ s₃ ∧ P (i + 1) s₃.heap
          | .brk => R (.ok .next) s₃
          | .ret v => R (.ok (.ret v)) s₃) E' s₂) E' (St σ h' t)) (S : Same σ s := by walk_at "SM") : codeAny (Mw w) A (.forLoop (.Name x px) (.ref it) body [] env) R s := by
  refine codeAny_forLoop (fun n s => ∃ i, n = items.size + 1 - i ∧ i ≤ items.size ∧ Same σ s ∧ P i s.heap) (fun n s hI => ?_) _ ⟨0, rfl, Nat.zero_le _, S, h0⟩
  obtain ⟨i, rfl, hi, S, p⟩ := hI
  obtain ⟨hit, hl, fin, go⟩ := turn i s.heap s.toks p
  rcases hv : items[i]? with _ | v
  · exact wpAny_pyNext_tuple_end hh hit hl hv fun h₁ he₁ => wpAny_execs_nil (S.st h₁ s.toks ▸ fin (by simpa using hv) h₁ fun b o e n => he₁ b o (fun q => n (q ▸ .head _)) e)
  · have hlt : i < items.size := (Array.getElem?_eq_some_iff.mp hv).1
    refine wpAny_pyNext_tuple_item hit hl hv fun h₁ hit₁ hs₁ => ?_
    have := go v (notedBy (Mw w) A env fun e s' => R (.error e) s') hv h₁ (fun b o e n => (hs₁.2 b fun q => n (q ▸ .head _)).trans e) hit₁
    rw [← S.st h₁ s.toks] at this
    refine wpAny_assign_Name (wpAny_mono this (fun _ s₂ q => wpAny_mono q (fun f s₃ q => ?_) fun _ _ x => x) fun _ _ x => x)
    cases f with
    | next => exact ⟨_, by omega, i + 1, rfl, hlt, q⟩
    | cont => exact ⟨_, by omega, i + 1, rfl, hlt, q⟩
    | brk => exact q
    | ret v => exact q
noncomputable def firstOf : List Str → List Tk → Option Str
  | [], _ => none
  | x :: r, rem => if heads [x] rem then some x else firstOf r rem
theorem isTuple_ext {h h' : Heap} {D : List Addr} {a : Addr} {items : Array Value} (x : Ext D h h') (n : a ∉ D) (H : h.IsTuple a items) : h'.IsTuple a items := let ⟨o, e, r⟩ := H; ⟨o, x _ _ e n, r⟩
theorem isTuple_keeps {h h' : Heap} {a : Addr} {items : Array Value} (x : ∀ b o, h.get? b = some o → h'.get? b = some o) (H : h.IsTuple a items) : h'.IsTuple a items := let ⟨o, e, r⟩ := H; ⟨o, x _ _ e, r⟩
theorem isTupIter_ext {h h' : Heap} {D : List Addr} {it ax : Addr} {i : Nat} (x : Ext D h h') (n : it ∉ D) (H : h.IsTupleIter it ax i) : h'.IsTupleIter it ax i := let ⟨o, e, r⟩ := H; ⟨o, x _ _ e n, r⟩
theorem one_word_c {w : World} {h : Heap} {r d tl wt : Addr} {ts : List (Addr × Tk)} {rem : List Tk} {ws : List (Str × Tok)} {x : Str} (G : G1 w h) (R : Rd h r d tl ts rem) (T : Toks (hideAll h [d]) tl ts)
    (W : (hideAll h [d]).IsTuple wt (strValues ws).toArray) (hws : ∀ q ∈ ws, Txt.split q.1 " " = [q.1] ∧ q.1.length ≤ 1000) (hf : firstOf (ws.map (·.1)) rem = some x) :
    Calls w 5 99 [.ref r, .ref wt] [d] h (fun v h' => (∃ t, v = .str (Txt.lower x) t) ∧ Rd h' r d tl ts rem.tail) := by
  refine Calls.mk (fs_one_word w _ _) G R.hD fun A s g tg hz L E ok B x0 => ?_
  have T : Toks hz tl ts := B.hz ▸ T
  have W : hz.IsTuple wt (strValues ws).toArray := B.hz ▸ W
  have R₁ := R.keeps x0.keeps
  have hdL : d ≠ L := Nat.ne_of_lt (B.L0 ▸ R.lt.2.2)
  refine wpAny_execs_cons (wpAny_For (n_ B (wpAny_pyIter_tuple (isTuple_keeps B.keep W) ?_)))
  have B₂ := B.push { cls := .type "tuple_iterator", data := .fields #[.ref wt, .int 0 0] }
  have hgL : L < g.objs.size := B.Llt
  have hgL' : g.objs.size ≠ L := Nat.ne_of_gt hgL
  have hgr : r ≠ g.objs.size := Nat.ne_of_lt R₁.lt.1
  have hgd : g.objs.size ≠ d := Nat.ne_of_gt (R₁.lt.2.2)
  have it0 : ∀ z ∈ [g.objs.size], z ∈ [d] ∨ L < z := fun z m => one_mem m (.inr hgL)
  refine for_tup (σ := s) (items := (strValues ws).toArray) (ax := wt) (fun i h' => (∃ ls, Bd w [d] s h L hz h' ls ∧ look ls "reader" = some (.ref r)) ∧ Rd h' r d tl ts rem ∧ h'.IsTupleIter g.objs.size wt i ∧ firstOf ((ws.drop i).map (·.1)) rem = some x) ok.hd
    ⟨⟨_, B₂, by walk_at "LK"⟩, R₁.keeps (Ext.push _ _).keeps, ⟨_, Heap.get?_push_size _ rfl, rfl, rfl⟩, hf⟩ fun i h₃ tk₃ P => ?_
  obtain ⟨⟨ls, B₃, h1⟩, R₃, hit, hf⟩ := P
  refine ⟨hit, isTuple_keeps B₃.keep W, fun hi h₄ x4 => ?_, fun v E' hv h₄ x4 hit' => ?_⟩
  · rw [List.drop_eq_nil_of_le (by simpa [strValues] using hi)] at hf
    cases hf
  · have B₄ := B₃.ext x4 it0
    have R₄ := R₃.ext x4 (nin1 hgr) (nin1 hgd.symm)
    obtain ⟨q, hq, rfl⟩ := strs_get hv
    have hdrop : ws.drop i = q :: ws.drop (i + 1) := by
      rw [List.drop_eq_getElem_cons (List.getElem?_eq_some_iff.mp hq).1, (List.getElem?_eq_some_iff.mp hq).2]
    rw [hdrop] at hf
    have hf : (if heads [q.1] rem then some q.1 else firstOf ((ws.drop (i + 1)).map (·.1)) rem) = some x := hf
    obtain ⟨hw1, hw2⟩ := hws q (List.mem_of_getElem? hq)
    refine s_ B₄ fun h₅ tk₅ B₅ x5 => ?_
    have R₅ := R₄.ext' x5 (one_dict B₄.isDict) (nin1 hdL)
    obtain ⟨k, t, nm, I⟩ := R₅.inst
    refine wpAny_execs_cons (wpAny_If (isTrue_plain ?_))
    refine m1_ B₅ (ms_Reader_skip w) I (n_ B₅ ⟨⟨_, B₅.F⟩, ?_⟩)
    refine B₅.use (skip_c [q.1] B₅.G1 R₅ (T.keeps B₅.over) hw1 hw2 (by show 1 ≤ 1000; decide)) fun v h₆ tk₆ B₆ x6 p => ?_
    obtain ⟨rfl, p⟩ := p
    refine wpAny_truthy_bool ?_
    cases hh : heads [q.1] rem with
    | false =>
      rw [hh] at hf p
      refine wpAny_execs_nil (wpAny_execs_nil ⟨by walk_at "SM", ⟨_, B₆, by walk_at "LK"⟩, p, ?_, hf⟩)
      exact isTupIter_ext x6 (nin1 hgd) (isTupIter_ext x5 (nin1 hgL') hit')
    | true =>
      rw [hh] at hf p
      have hf : q.1 = x := by simpa using hf
      subst hf
      refine wpAny_execs_cons (wpAny_Return_some (bm0_ F.plainAttrs_str F.slot_str_lower F.type_str_lower (n_ B₆ ⟨typeIs_str _ _ _, fun _ e => (nomatch e), ?_⟩)))
      refine SCL.lower (by omega) fun _ => ⟨B₆.x, ⟨⟨_, rfl⟩, ?_⟩, by walk_at "SM"⟩
      rw [← List.drop_one]
      exact p

noncomputable def nameP : List Tk → Option (Str × List Tk)
  | [] => none
  | t :: r => if (t.1 == "word") && !resd t.2 then some (t.2, r) else none
theorem nameP_inv {rem rem' : List Tk} {x : Str} (h : nameP rem = some (x, rem')) : rem = ((("word" : Str), x) : Tk) :: rem' ∧ resd x = false ∧ nameB rem = true := by
  cases rem with
  | nil => cases h
  | cons t r =>
    have h : (if (t.1 == ("word" : Str)) && !resd t.2 then some (t.2, r) else none) = some (x, rem') := h
    cases hk : (t.1 == ("word" : Str)) && !resd t.2 with
    | false => rw [hk] at h; cases h
    | true =>
      rw [hk] at h
      injection h with h
      injection h with h1 h2
      subst h1 h2
      have hk' := hk
      rw [Bool.and_eq_true] at hk
      exact ⟨by rw [← show t.1 = ("word" : Str) from eq_of_beq hk.1], by simpa using hk.2, hk'⟩
section
variable {w : World} {A : Around} {E : Value → Shared → Prop} {s σ : Shared} {hz h0 hp : Heap} {L f : Addr} {D : List Addr} {ls : List (Str × Value)} {qn : Str} {sc : Scope} {cd : Value}
  {r d tl : Addr} {ts : List (Addr × Tk)} {rem rem' : List Tk} {x : Str} {xp apos pos cp : Pos} {ck : Nat}
/-- reader.name() -/
theorem rname_ {y : Str} {Q : Value → Shared → Prop} (B : Bd w D σ h0 L hz s.heap ls) (R : Rd s.heap r d tl ts rem) (T : Toks hz tl ts) (hn : nameP rem = some (y, rem'))
    (h : ∀ t h' tk', Bd w D σ h0 L hz h' ls → Ext [d] s.heap h' → Rd h' r d tl ts rem' → Q (.str y t) (St σ h' tk'))
    (hd : d ∈ D ∨ L < d := by walk_at "DD") (ok : Ok A 4 := by walk_at "OK") (S : Same σ s := by walk_at "SM")
    (S' : Loc sc x := by walk_at "LOC") (hx : look ls x = some (.ref r) := by walk_at "LK")
    (hc : eval (.Call (.Attribute (.Name x xp) "name" apos) [] [] pos) (envOf qn sc L f cd) = (do
      let ov ← eval (.Name x xp) (envOf qn sc L f cd)
      standAt apos.atName
      let (g, first) ← holding [ov] (getMethod ov "name" (do return (← importBound (.Name x xp) (envOf qn sc L f cd)).getD true))
      callWith pos g first (backTo pos (starEach [] (envOf qn sc L f cd))) []) := by rfl) :
    wpAny (Mw w) A (eval (.Call (.Attribute (.Name x xp) "name" apos) [] [] pos) (envOf qn sc L f cd)) Q E s := by
  obtain ⟨e, hr, _⟩ := nameP_inv hn
  subst e
  have hs : ∀ x ∈ [d], x ∈ D ∨ L < x := fun x m => one_mem m (hd)
  refine rm0_ B R (ms_Reader_name w) (name_c B.G1 R (T.keeps (B.over hs)) hr) (fun v h' tk' B' x' p => ?_) hs ok S (by decide +kernel) S' hx hc
  obtain ⟨⟨t, rfl⟩, p⟩ := p
  exact h t h' tk' B' x' p
end
theorem set_key {sp sd : Addr} {S : Spec} (p : Str) (t : Tok) : ∀ h' t1 t2 t3 t4 t5 t6 t7 al rc, Alts h' al S.alts → IsTup h' rc #[] → Inst h' 88 sp sd (put (specL (.str S.name t1) (.str S.path t2) (.str S.org t3) (.str S.acc t4) (.str S.key t5) (.ref al) (.str S.rel t6) (.str S.st t7) (.bool false) (.ref rc)) "key" (.str p t)) → SpecAt h' sp sd { S with key := p } := by
  intro h' t1 t2 t3 t4 t5 t6 t7 al rc a b I
  rw [put_key] at I
  exact ⟨_, _, _, _, _, _, _, _, _, I, a, b⟩
theorem set_rel {sp sd : Addr} {S : Spec} (p : Str) (t : Tok) : ∀ h' t1 t2 t3 t4 t5 t6 t7 al rc, Alts h' al S.alts → IsTup h' rc #[] → Inst h' 88 sp sd (put (specL (.str S.name t1) (.str S.path t2) (.str S.org t3) (.str S.acc t4) (.str S.key t5) (.ref al) (.str S.rel t6) (.str S.st t7) (.bool false) (.ref rc)) "relative_key" (.str p t)) → SpecAt h' sp sd { S with rel := p } := by
  intro h' t1 t2 t3 t4 t5 t6 t7 al rc a b I
  rw [put_rel] at I
  exact ⟨_, _, _, _, _, _, _, _, _, I, a, b⟩
theorem set_st {sp sd : Addr} {S : Spec} (p : Str) (t : Tok) : ∀ h' t1 t2 t3 t4 t5 t6 t7 al rc, Alts h' al S.alts → IsTup h' rc #[] → Inst h' 88 sp sd (put (specL (.str S.name t1) (.str S.path t2) (.str S.org t3) (.str S.acc t4) (.str S.key t5) (.ref al) (.str S.rel t6) (.str S.st t7) (.bool false) (.ref rc)) "status" (.str p t)) → SpecAt h' sp sd { S with st := p } := by
  intro h' t1 t2 t3 t4 t5 t6 t7 al rc a b I
  rw [put_st] at I
  exact ⟨_, _, _, _, _, _, _, _, _, I, a, b⟩
theorem set_org {sp sd : Addr} {S : Spec} (p : Str) (t : Tok) : ∀ h' t1 t2 t3 t4 t5 t6 t7 al rc, Alts h' al S.alts → IsTup h' rc #[] → Inst h' 88 sp sd (put (specL (.str S.name t1) (.str S.path t2) (.str S.org t3) (.str S.acc t4) (.str S.key t5) (.ref al) (.str S.rel t6) (.str S.st t7) (.bool false) (.ref rc)) "organization" (.str p t)) → SpecAt h' sp sd { S with org := p } := by
  intro h' t1 t2 t3 t4 t5 t6 t7 al rc a b I
  rw [put_org] at I
  exact ⟨_, _, _, _, _, _, _, _, _, I, a, b⟩
theorem set_acc {sp sd : Addr} {S : Spec} (p : Str) (t : Tok) : ∀ h' t1 t2 t3 t4 t5 t6 t7 al rc, Alts h' al S.alts → IsTup h' rc #[] → Inst h' 88 sp sd (put (specL (.str S.name t1) (.str S.path t2) (.str S.org t3) (.str S.acc t4) (.str S.key t5) (.ref al) (.str S.rel t6) (.str S.st t7) (.bool false) (.ref rc)) "access" (.str p t)) → SpecAt h' sp sd { S with acc := p } := by
  intro h' t1 t2 t3 t4 t5 t6 t7 al rc a b I
  rw [put_acc] at I
  exact ⟨_, _, _, _, _, _, _, _, _, I, a, b⟩
theorem read_record_key_c {w : World} {h : Heap} {r d tl sp sd : Addr} {ts : List (Addr × Tk)} {rem rem' : List Tk} {S : Spec} {x : Str} (G : G1 w h) (R : Rd h r d tl ts rem) (P : SpecAt h sp sd S) (T : Toks (hideAll h [d, sd]) tl ts) (hn : nameP (after ["IS"] (after ["KEY"] rem)) = some (x, rem')) :
    Calls w 6 113 [.ref r, .ref sp] [d, sd] h (fun _ h' => Rd h' r d tl ts rem' ∧ SpecAt h' sp sd { S with key := x }) := by
  refine Calls.mk (fs_read_record_key w _ _) G (hD2 P R) fun A s g tg hz L E ok B x0 => ?_
  have T : Toks hz tl ts := B.hz ▸ T
  have hL := nL P R B.L0
  have R₁ := R.keeps x0.keeps
  have P₁ := P.kp x0
  refine wpAny_execs_cons (wpAny_Expr_any (rskip_ ["KEY"] B R₁ T fun h₂ tk₂ B₂ x2 R₂ => ?_))
  have P₂ := P₁.sk R₁ x2
  refine wpAny_execs_cons (wpAny_Expr_any (rskip_ ["IS"] B₂ R₂ T fun h₃ tk₃ B₃ x3 R₃ => ?_))
  have P₃ := P₂.sk R₂ x3
  refine wpAny_execs_cons (plainObj_wpAny_Assign_Attribute (rname_ B₃ R₃ T hn fun t h₄ tk₄ B₄ x4 R₄ => ?_))
  have P₄ := P₃.sk R₃ x4
  exact n_ B₄ (sset_ B₄ (ss_FileSpec_key w) P₄ R₄ hL (.inl (.tail _ (.head _))) (set_key _ _) fun h₅ tk₅ B₅ x5 R₅ P₅ => wpAny_execs_nil ⟨B₅.x, ⟨R₅, P₅⟩, by walk_at "SM"⟩)
noncomputable def relP (rem : List Tk) (S : Spec) : Option (Str × Spec × List Tk) :=
  if heads ["KEY"] rem then (nameP (after ["IS"] (after ["KEY"] rem))).map fun q => ("RELATIVE KEY", { S with rel := q.1 }, q.2)
  else if heads ["IS"] rem || nameB rem then (nameP (after ["IS"] rem)).map fun q => ("RELATIVE KEY", { S with rel := q.1 }, q.2)
  else some ("ORGANIZATION", { S with org := "relative" }, rem)
theorem read_relative_c {w : World} {h : Heap} {r d tl sp sd : Addr} {ts : List (Addr × Tk)} {rem rem' : List Tk} {S S' : Spec} {x : Str} (G : G1 w h) (R : Rd h r d tl ts rem) (P : SpecAt h sp sd S) (T : Toks (hideAll h [d, sd]) tl ts) (hn : relP rem S = some (x, S', rem')) :
    Calls w 6 125 [.ref r, .ref sp] [d, sd] h (fun v h' => (∃ t, v = .str x t) ∧ Rd h' r d tl ts rem' ∧ SpecAt h' sp sd S') := by
  refine Calls.mk (fs_read_relative w _ _) G (hD2 P R) fun A s g tg hz L E ok B x0 => ?_
  have T : Toks hz tl ts := B.hz ▸ T
  have hL := nL P R B.L0
  have R₁ := R.keeps x0.keeps
  have P₁ := P.kp x0
  unfold relP at hn
  refine wpAny_execs_cons (wpAny_If (isTrue_plain (rskip_ ["KEY"] B R₁ T fun h₂ tk₂ B₂ x2 R₂ => wpAny_truthy_bool ?_)))
  have P₂ := P₁.sk R₁ x2
  cases hk : heads ["KEY"] rem with
  | true =>
    rw [hk, if_pos rfl] at hn
    obtain ⟨q, hq, e⟩ := Option.map_eq_some_iff.mp hn
    injection e with e1 e2
    injection e2 with e2 e3
    subst e1 e2 e3
    refine wpAny_execs_cons (wpAny_Expr_any (rskip_ ["IS"] B₂ R₂ T fun h₃ tk₃ B₃ x3 R₃ => ?_))
    have P₃ := P₂.sk R₂ x3
    refine wpAny_execs_cons (plainObj_wpAny_Assign_Attribute (rname_ B₃ R₃ T hq fun t h₄ tk₄ B₄ x4 R₄ => ?_))
    have P₄ := P₃.sk R₃ x4
    refine n_ B₄ (sset_ B₄ (ss_FileSpec_relative_key w) P₄ R₄ hL (.inl (.tail _ (.head _))) (set_rel _ _) fun h₅ tk₅ B₅ x5 R₅ P₅ => ?_)
    exact wpAny_execs_cons (wpAny_Return_some (wpAny_Constant_str ⟨B₅.x, ⟨⟨_, rfl⟩, R₅, P₅⟩, by walk_at "SM"⟩))
  | false =>
    rw [hk] at hn
    rw [after_f hk] at R₂
    refine wpAny_execs_nil ?_
    have hn : (if (heads ["IS"] rem || nameB rem) = true then (nameP (after ["IS"] rem)).map fun q => ((("RELATIVE KEY" : Str), { S with rel := q.1 }, q.2) : Str × Spec × List Tk) else some ("ORGANIZATION", { S with org := "relative" }, rem)) = some (x, S', rem') := hn
    refine wpAny_execs_cons (wpAny_If (isTrue_or (isTrue_plain (rskip_ ["IS"] B₂ R₂ T fun h₃ tk₃ B₃ x3 R₃ => wpAny_truthy_bool ?_))))
    have P₃ := P₂.sk (after_f hk ▸ R₂) x3
    cases hi : heads ["IS"] rem with
    | true =>
      rw [hi, Bool.true_or, if_pos rfl] at hn
      obtain ⟨q, hq, e⟩ := Option.map_eq_some_iff.mp hn
      injection e with e1 e2
      injection e2 with e2 e3
      subst e1 e2 e3
      refine wpAny_execs_cons (plainObj_wpAny_Assign_Attribute (rname_ B₃ R₃ T hq fun t h₄ tk₄ B₄ x4 R₄ => ?_))
      have P₄ := P₃.sk R₃ x4
      refine n_ B₄ (sset_ B₄ (ss_FileSpec_relative_key w) P₄ R₄ hL (.inl (.tail _ (.head _))) (set_rel _ _) fun h₅ tk₅ B₅ x5 R₅ P₅ => ?_)
      exact wpAny_execs_cons (wpAny_Return_some (wpAny_Constant_str ⟨B₅.x, ⟨⟨_, rfl⟩, R₅, P₅⟩, by walk_at "SM"⟩))
    | false =>
      rw [after_f hi] at R₃ hn
      rw [hi, Bool.false_or] at hn
      refine isTrue_or (isTrue_plain (rm0_ B₃ R₃ (ms_Reader_is_name w) (is_name_c B₃.G1 R₃ (T.keeps B₃.keep)) fun v h₄ tk₄ B₄ x4 p => ?_))
      subst p
      have R₄ := R₃.keeps x4.keeps
      have P₄ := P₃.kp x4
      refine wpAny_truthy_bool ?_
      cases hb : nameB rem with
      | true =>
        rw [hb, if_pos rfl] at hn
        obtain ⟨q, hq, e⟩ := Option.map_eq_some_iff.mp hn
        injection e with e1 e2
        injection e2 with e2 e3
        subst e1 e2 e3
        refine wpAny_execs_cons (plainObj_wpAny_Assign_Attribute (rname_ B₄ R₄ T hq fun t h₅ tk₅ B₅ x5 R₅ => ?_))
        have P₅ := P₄.sk R₄ x5
        refine n_ B₅ (sset_ B₅ (ss_FileSpec_relative_key w) P₅ R₅ hL (.inl (.tail _ (.head _))) (set_rel _ _) fun h₆ tk₆ B₆ x6 R₆ P₆ => ?_)
        exact wpAny_execs_cons (wpAny_Return_some (wpAny_Constant_str ⟨B₆.x, ⟨⟨_, rfl⟩, R₆, P₆⟩, by walk_at "SM"⟩))
      | false =>
        rw [hb] at hn
        injection hn with e
        injection e with e1 e2
        injection e2 with e2 e3
        subst e1 e2 e3
        refine isTrue_or_nil (wpAny_execs_nil (wpAny_execs_cons (plainObj_wpAny_Assign_Attribute (wpAny_Constant_str ?_))))
        refine n_ B₄ (sset_ B₄ (ss_FileSpec_organization w) P₄ R₄ hL (.inl (.tail _ (.head _))) (set_org _ _) fun h₆ tk₆ B₆ x6 R₆ P₆ => ?_)
        exact wpAny_execs_cons (wpAny_Return_some (wpAny_Constant_str ⟨B₆.x, ⟨⟨_, rfl⟩, R₆, P₆⟩, by walk_at "SM"⟩))
theorem Ext.same {h h' : Heap} {D : List Addr} (x : Ext [] h h') : Ext D h h' := x.nil
/-- tuples added -/
theorem addt_ {w : World} {A : Around} {E : Value → Shared → Prop} {s σ : Shared} {D : List Addr} {h0 hz : Heap} {L : Addr} {ls : List (Str × Value)} {t b : Addr} {vs ws : List Value} {Q : Value → Shared → Prop} (B : Bd w D σ h0 L hz s.heap ls)
    (ht : IsTup s.heap t vs.toArray) (hb : IsTup s.heap b ws.toArray) (h : ∀ a h' tk', Bd w D σ h0 L hz h' ls → Ext [L] s.heap h' → IsTup h' a (vs ++ ws).toArray → Q (.ref a) (St σ h' tk'))
    (hsz : vs.length + ws.length ≤ sizeLine) (S : Same σ s := by walk_at "SM") : wpAny (Mw w) A (binaryOp .Add (.ref t) (.ref b)) Q E s := by
  refine add_tuples B.FL (newsL _ _) ht hb (fun e => ?_) (fun _ e => ?_) (fun _ _ h' F N => ?_) hsz
  · have := h b s.heap s.toks B (Ext.refl _ _) (by subst e; simpa using hb)
    rwa [← S.is] at this
  · have := h t s.heap s.toks B (Ext.refl _ _) (by subst e; simpa using ht)
    rwa [← S.is] at this
  · obtain ⟨B', x⟩ := B.back F N fun p m => .tail _ m
    have := h s.heap.objs.size h' s.toks B' x ⟨_, (N _ (.head _)).1, rfl, _, rfl⟩
    rwa [← S.st h' s.toks] at this
theorem tup_of {h : Heap} {a : Addr} {items : Array Value} (T : IsTup h a items) : h.IsTuple a items := T
theorem Alts.isTup {h : Heap} {al : Addr} {as : List (Str × Bool)} (P : Alts h al as) : ∃ vs : List Value, IsTup h al vs.toArray ∧ Pairs h vs as := P
theorem pairs_get {h : Heap} {vs : List Value} {as : List (Str × Bool)} (P : Pairs h vs as) {v : Value} (m : v ∈ vs) : ∃ a, Pair h v a := by
  induction P with
  | nil => cases m
  | cons p _ ih =>
    rcases List.mem_cons.mp m with rfl | m
    · exact ⟨_, p⟩
    · exact ih m
theorem pair_one {h : Heap} {v : Value} {a b : Str × Bool} (p : Pair h v a) (q : Pair h v b) : a = b := by
  obtain ⟨x, t, rfl, o, e, _, n, d⟩ := p
  obtain ⟨y, u, q1, o', e', _, n', d'⟩ := q
  cases q1
  rw [e] at e'; cases e'
  rw [d] at d'
  have := congrArg Array.toList (Data.seq.inj d').1
  obtain ⟨a1, a2⟩ := a
  obtain ⟨b1, b2⟩ := b
  injection this with e1 e2
  injection e2 with e2 _
  injection e1 with e1
  injection e2 with e2
  exact Prod.ext e1 e2
theorem pairs_names {h : Heap} {vs : List Value} {as : List (Str × Bool)} {ys : List Value} (P : Pairs h vs as) (Y : Paired (fun v y => ∃ a t, Pair h v a ∧ y = .str a.1 t) vs ys) : StrsAre ys (as.map (·.1)) := by
  induction P generalizing ys with
  | nil => cases Y; exact .nil
  | cons p _ ih =>
    cases Y with
    | cons f r =>
      obtain ⟨a, t, q, rfl⟩ := f
      rw [← pair_one p q]
      exact .cons _ _ (ih r)
theorem Pairs.length {h : Heap} {vs as} (P : Pairs h vs as) : vs.length = as.length := by induction P <;> simp_all
theorem Pairs.snoc {h : Heap} {vs as v a} (P : Pairs h vs as) (p : Pair h v a) : Pairs h (vs ++ [v]) (as ++ [a]) := by
  induction P with
  | nil => exact .cons p .nil
  | cons q _ ih => exact .cons q ih
theorem list_all {vs : List Value} {as : List Value} {n : Nat} (hl : vs.length = n) (hn : as.length = n) (H : ∀ (j : Nat) v, vs[j]? = some v → as.toArray[j]? = some v) : vs = as := by
  refine List.ext_getElem (hl.trans hn.symm) fun i h1 h2 => ?_
  have := H i vs[i] (by simp [h1])
  rw [List.getElem?_toArray, List.getElem?_eq_getElem h2] at this
  exact (Option.some.inj this).symm
theorem set_alts {sp sd : Addr} {S : Spec} (as : List (Str × Bool)) (al' : Addr) : ∀ h' t1 t2 t3 t4 t5 t6 t7 al rc, Alts h' al' as → IsTup h' rc #[] → Inst h' 88 sp sd (put (specL (.str S.name t1) (.str S.path t2) (.str S.org t3) (.str S.acc t4) (.str S.key t5) (.ref al) (.str S.rel t6) (.str S.st t7) (.bool false) (.ref rc)) "alternates" (.ref al')) → SpecAt h' sp sd { S with alts := as } := by
  intro h' t1 t2 t3 t4 t5 t6 t7 al rc a b I
  rw [put_alts] at I
  exact ⟨_, _, _, _, _, _, _, _, _, I, a, b⟩
noncomputable def dupP (r : List Tk) : Bool × List Tk := if heads ["WITH", "DUPLICATES"] r then (true, after ["WITH", "DUPLICATES"] r) else (heads ["DUPLICATES"] r, after ["DUPLICATES"] r)
noncomputable def altP (rem : List Tk) (S : Spec) : Option (Spec × List Tk) := (nameP (after ["IS"] (after ["KEY"] (after ["RECORD"] rem)))).bind fun q =>
  if (S.alts.map (·.1)).any (· == q.1) then none else some ({ S with alts := S.alts ++ [(q.1, (dupP q.2).1)] }, (dupP q.2).2)
theorem sset_alts {w : World} {A : Around} {E : Value → Shared → Prop} {s σ : Shared} {hz h0 : Heap} {L : Addr} {D : List Addr} {ls : List (Str × Value)} {sp sd r d tl al' : Addr} {S : Spec} {as : List (Str × Bool)} {ts rem} {Q : Unit → Shared → Prop} (B : Bd w D σ h0 L hz s.heap ls)
    (P : SpecAt s.heap sp sd S) (R : Rd s.heap r d tl ts rem) (hsd : sd ≠ L ∧ sp ≠ L ∧ d ≠ L) (hd : sd ∈ D ∨ L < sd) (A' : Alts s.heap al' as)
    (h : ∀ h' tk', Bd w D σ h0 L hz h' ls → Ext [L, sd] s.heap h' → Rd h' r d tl ts rem → SpecAt h' sp sd { S with alts := as } → Q () (St σ h' tk')) (S0 : Same σ s := by walk_at "SM") :
    wpAny (Mw w) A (setAttr (.ref sp) "alternates" (.ref al')) Q E s := by
  have hD : ∀ x ∈ [L, sd], isDict s.heap x := two_dict B.isDict P.isDict
  have hne := P.ne R
  obtain ⟨t1, t2, t3, t4, t5, t6, t7, al, rc, I, a, b⟩ := P
  exact sa_ B (ss_FileSpec_alternates w) I hd hsd.2.1 (fun h' tk' B' x I' => h h' tk' B' x (R.ext' x hD (nin2 hsd.2.2 hne.symm)) (set_alts as al' _ _ _ _ _ _ _ _ al _ (A'.ext x hD) (tup_ext b x hD) I')) S0
theorem cutK {α : Type} {M : Model} {A : Around} {E : Value → Shared → Prop} {s : Shared} {m : Sem α} {Q : α → Shared → Prop} (h : ∀ K : α → Shared → Prop, (∀ a s', Q a s' → K a s') → wpAny M A m K E s) : wpAny M A m Q E s := h Q fun _ _ x => x
noncomputable def wholeB (S : Spec) : Bool :=
  if S.path == "" || ((S.key != "") != (S.org == "indexed")) then false
  else if !S.alts.isEmpty && S.org != "indexed" then false
  else if S.org != "relative" then S.rel == "" && (S.org == "indexed" || S.acc == "sequential")
  else S.rel != "" || S.acc == "sequential"
theorem ne_nil_tup {prog : Program} {w : World} {A : Around} {E : Value → Shared → Prop} {s : Shared} {a b : Addr} {vs : List Value} {Q : Value → Shared → Prop} (ha : s.heap.IsTuple a vs.toArray) (hb : s.heap.IsTuple b #[]) (hu : A.units < cLine) (h : Q (.bool (!vs.isEmpty)) s) :
    wpAny (model prog w) A (compareOp .NotEq (.ref a) (.ref b)) Q E s := by
  refine (SeqAt.RcNeAt.tuples (e := fun _ => true) ha hb hu (fun j h1 h2 => absurd h2 (Nat.not_lt_zero j))) prog w E Q ?_
  have : (!((List.range (min vs.toArray.size (#[] : Array Value).size)).all (fun _ => true) && vs.toArray.size == (#[] : Array Value).size)) = !vs.isEmpty := by
    cases vs <;> rfl
  rw [this]; exact h
theorem is_whole_c {w : World} {h : Heap} {sp sd : Addr} {S : Spec} (G : G1 w h) (P : SpecAt h sp sd S) : Calls w 1 139 [.ref sp] [] h (fun v _ => v = .bool (wholeB S)) := by
  refine Calls.mk (fs_is_whole_spec w _) G nil_mem fun A s g tg hz L E ok B x0 => ?_
  have P₁ := P.kp x0
  obtain ⟨t1, t2, t3, t4, t5, t6, t7, al, rc, I, ⟨vs, hal, hps⟩, hrc⟩ := id P₁
  have hlen : vs.isEmpty = S.alts.isEmpty := by
    have := hps.length
    cases vs <;> cases hS : S.alts <;> simp_all
  refine wpAny_execs_cons (wpAny_If (isTrue_or (wpAny_isTrue_Compare1 (a_ B (as_FileSpec_path w) I (wpAny_Constant_str (eq_str (wpAny_truthy_bool ?_)))))))
  cases h1 : S.path == ("" : Str) with
  | true => exact wpAny_execs_cons (wpAny_Return_some (wpAny_Constant_bool ⟨B.x, (by unfold wholeB; rw [h1]; rfl), by walk_at "SM"⟩))
  | false =>
  refine isTrue_or (wpAny_isTrue_Compare1 (wpAny_Compare1 (a_ B (as_FileSpec_key w) I (wpAny_Constant_str (ne_str ?_)))))
  refine wpAny_Compare1 (a_ B (as_FileSpec_organization w) I (wpAny_Constant_str (eq_str (ne_bool (wpAny_truthy_bool ?_)))))
  cases h2 : ((S.key != ("" : Str)) != (S.org == ("indexed" : Str))) with
  | true => exact wpAny_execs_cons (wpAny_Return_some (wpAny_Constant_bool ⟨B.x, (by unfold wholeB; rw [h1, h2]; rfl), by walk_at "SM"⟩))
  | false =>
  refine isTrue_or_nil (wpAny_execs_nil (wpAny_execs_cons (wpAny_If (isTrue_and (mono_q (fun b s' => ∃ h' tk', s' = St s h' tk' ∧ b = !S.alts.isEmpty ∧ Bd w [] s h L hz h' [("spec", .ref sp)] ∧ Inst h' 88 sp sd (specL (.str S.name t1) (.str S.path t2) (.str S.org t3) (.str S.acc t4) (.str S.key t5) (.ref al) (.str S.rel t6) (.str S.st t7) (.bool false) (.ref rc))) ?_ ?_)))))
  · refine wpAny_isTrue_Compare1 (a_ B (as_FileSpec_alternates w) I (wpAny_Tuple (args_nil ⟨Nat.zero_le _, ?_⟩)))
    have x2 : Ext [] g (g.push { cls := .type "tuple", data := .seq ([] : List Value).toArray }) := Ext.push _ _
    refine ne_nil_tup (tup_ext hal x2 fun _ m => nomatch m) (IsTup.new _ _) (by have := ok.un; omega) (wpAny_truthy_bool ⟨_, _, rfl, ?_, B.push _, I.keeps x2.keeps⟩)
    rw [hlen]
  rintro b s' ⟨h₂, tk₂, rfl, rfl, B₂, I₂⟩
  have fin : ∀ tt, wholeB S = (if S.org != ("relative" : Str) then S.rel == ("" : Str) && (S.org == ("indexed" : Str) || S.acc == ("sequential" : Str)) else S.rel != ("" : Str) || S.acc == ("sequential" : Str)) → wpAny (Mw w) A (execs (b_139.drop 2) (envOf "is_whole_spec" s_139 L 139 (.ref 138))) (Post [] h s fun v _ => v = .bool (wholeB S)) E (St s h₂ tt) := by
    intro tt hfin
    refine wpAny_execs_cons (wpAny_If (wpAny_isTrue_Compare1 (a_ B₂ (as_FileSpec_organization w) I₂ (wpAny_Constant_str (ne_str (wpAny_truthy_bool ?_))))))
    cases h3 : (S.org != ("relative" : Str)) with
    | true =>
      refine wpAny_execs_cons (wpAny_Return_some (BoolOp_and (wpAny_Compare1 (a_ B₂ (as_FileSpec_relative_key w) I₂ (wpAny_Constant_str (eq_str (wpAny_truthy_bool ?_)))))))
      cases h4 : (S.rel == ("" : Str)) with
      | false => exact ⟨B₂.x, (by rw [hfin, h3, h4]; rfl), by walk_at "SM"⟩
      | true =>
        refine BoolOp_one (BoolOp_or (wpAny_Compare1 (a_ B₂ (as_FileSpec_organization w) I₂ (wpAny_Constant_str (eq_str (wpAny_truthy_bool ?_))))))
        cases h5 : (S.org == ("indexed" : Str)) with
        | true => exact ⟨B₂.x, (by rw [hfin, h3, h4, h5]; rfl), by walk_at "SM"⟩
        | false => exact BoolOp_one (wpAny_Compare1 (a_ B₂ (as_FileSpec_access w) I₂ (wpAny_Constant_str (eq_str ⟨B₂.x, (by rw [hfin, h3, h4, h5]; rfl), by walk_at "SM"⟩))))
    | false =>
      refine wpAny_execs_nil (wpAny_execs_cons (wpAny_Return_some (BoolOp_or (wpAny_Compare1 (a_ B₂ (as_FileSpec_relative_key w) I₂ (wpAny_Constant_str (ne_str (wpAny_truthy_bool ?_))))))))
      cases h4 : (S.rel != ("" : Str)) with
      | true => exact ⟨B₂.x, (by rw [hfin, h3, h4]; rfl), by walk_at "SM"⟩
      | false => exact BoolOp_one (wpAny_Compare1 (a_ B₂ (as_FileSpec_access w) I₂ (wpAny_Constant_str (eq_str ⟨B₂.x, (by rw [hfin, h3, h4]; rfl), by walk_at "SM"⟩))))
  cases h3 : S.alts.isEmpty with
  | true => exact wpAny_execs_nil (fin _ (by unfold wholeB; rw [h1, h2, h3]; rfl))
  | false =>
    refine isTrue_and (wpAny_isTrue_Compare1 (a_ B₂ (as_FileSpec_organization w) I₂ (wpAny_Constant_str (ne_str (wpAny_truthy_bool ?_)))))
    cases h4 : (S.org != ("indexed" : Str)) with
    | true => exact isTrue_and_nil (wpAny_execs_cons (wpAny_Return_some (wpAny_Constant_bool ⟨B₂.x, (by unfold wholeB; rw [h1, h2, h3, h4]; rfl), by walk_at "SM"⟩)))
    | false => exact wpAny_execs_nil (fin _ (by unfold wholeB; rw [h1, h2, h3, h4]; rfl))
theorem put_f1 (v0 : Value) : put ([] : List (Str × Value)) "name" v0 = ([("name", v0)] : List (Str × Value)) := by kernel_rfl
theorem put_f2 (v0 v1 : Value) : put ([("name", v0)] : List (Str × Value)) "path" v1 = ([("name", v0), ("path", v1)] : List (Str × Value)) := by kernel_rfl
theorem put_f3 (v0 v1 v2 : Value) : put ([("name", v0), ("path", v1)] : List (Str × Value)) "organization" v2 = ([("name", v0), ("path", v1), ("organization", v2)] : List (Str × Value)) := by kernel_rfl
theorem put_f4 (v0 v1 v2 v3 : Value) : put ([("name", v0), ("path", v1), ("organization", v2)] : List (Str × Value)) "access" v3 = ([("name", v0), ("path", v1), ("organization", v2), ("access", v3)] : List (Str × Value)) := by kernel_rfl
theorem put_f5 (v0 v1 v2 v3 v4 : Value) : put ([("name", v0), ("path", v1), ("organization", v2), ("access", v3)] : List (Str × Value)) "key" v4 = ([("name", v0), ("path", v1), ("organization", v2), ("access", v3), ("key", v4)] : List (Str × Value)) := by kernel_rfl
theorem put_f6 (v0 v1 v2 v3 v4 v5 : Value) : put ([("name", v0), ("path", v1), ("organization", v2), ("access", v3), ("key", v4)] : List (Str × Value)) "alternates" v5 = ([("name", v0), ("path", v1), ("organization", v2), ("access", v3), ("key", v4), ("alternates", v5)] : List (Str × Value)) := by kernel_rfl
theorem put_f7 (v0 v1 v2 v3 v4 v5 v6 : Value) : put ([("name", v0), ("path", v1), ("organization", v2), ("access", v3), ("key", v4), ("alternates", v5)] : List (Str × Value)) "relative_key" v6 = ([("name", v0), ("path", v1), ("organization", v2), ("access", v3), ("key", v4), ("alternates", v5), ("relative_key", v6)] : List (Str × Value)) := by kernel_rfl
theorem put_f8 (v0 v1 v2 v3 v4 v5 v6 v7 : Value) : put ([("name", v0), ("path", v1), ("organization", v2), ("access", v3), ("key", v4), ("alternates", v5), ("relative_key", v6)] : List (Str × Value)) "status" v7 = ([("name", v0), ("path", v1), ("organization", v2), ("access", v3), ("key", v4), ("alternates", v5), ("relative_key", v6), ("status", v7)] : List (Str × Value)) := by kernel_rfl
theorem put_f9 (v0 v1 v2 v3 v4 v5 v6 v7 v8 : Value) : put ([("name", v0), ("path", v1), ("organization", v2), ("access", v3), ("key", v4), ("alternates", v5), ("relative_key", v6), ("status", v7)] : List (Str × Value)) "is_sort" v8 = ([("name", v0), ("path", v1), ("organization", v2), ("access", v3), ("key", v4), ("alternates", v5), ("relative_key", v6), ("status", v7), ("is_sort", v8)] : List (Str × Value)) := by kernel_rfl
theorem put_f10 (v0 v1 v2 v3 v4 v5 v6 v7 v8 v9 : Value) : put ([("name", v0), ("path", v1), ("organization", v2), ("access", v3), ("key", v4), ("alternates", v5), ("relative_key", v6), ("status", v7), ("is_sort", v8)] : List (Str × Value)) "records" v9 = ([("name", v0), ("path", v1), ("organization", v2), ("access", v3), ("key", v4), ("alternates", v5), ("relative_key", v6), ("status", v7), ("is_sort", v8), ("records", v9)] : List (Str × Value)) := by kernel_rfl

theorem make_ {w : World} {A : Around} {E : Value → Shared → Prop} {s σ : Shared} {D : List Addr} {h0 hz : Heap} {L : Addr} {ls : List (Str × Value)} {C fI : Addr} {n : Nat} {rest : List Value} {post : Addr → Addr → Heap → Prop} {Q : Value → Shared → Prop}
    (B : Bd w D σ h0 L hz s.heap ls) (hm : makesIn (Kw w) C = true) (hi : findIn (Kw w) (.ref C) "__init__" = some (some (.ref fI))) (hf : typeIn (Kw w) (.ref fI) = some (.type "function"))
    (Cn : ∀ x dx h', Mine.G1 w h' → Ext [] s.heap h' → Inst h' C x dx [] → Calls w n fI (.ref x :: rest) [dx] h' (fun v h'' => v = .none ∧ post x dx h''))
    (h : ∀ x dx h' tk', Bd w D σ h0 L hz h' ls → Ext [] s.heap h' → s.heap.objs.size ≤ dx → s.heap.objs.size ≤ x → post x dx h' → Q (.ref x) (St σ h' tk'))
    (ok : Ok A (n + 1) := by walk_at "OK") (S : Same σ s := by walk_at "SM") : wpAny (Mw w) A (call (.ref C) rest) Q E s := by
  refine wpAny_call ?_
  have G := B.G1
  have X := G.X
  have hs := G.size
  obtain ⟨hh, g, d, t, os⟩ := s
  refine make_core (makes_of X hm) (looks_findIn X hi) (fun self => bind_fn X self hf) (.inl rfl) ?_
  have x1 : Ext [] hh ((hh.push emptyDict).push (instObj C hh.objs.size)) := (Ext.push _ _).trans (Ext.push _ _)
  have hx : ((hh.push emptyDict).push (instObj C hh.objs.size)).get? (hh.objs.size + 1) = some (instObj C hh.objs.size) := Heap.get?_push_at (by rw [Heap.size_push]) rfl
  have hd : ((hh.push emptyDict).push (instObj C hh.objs.size)).get? hh.objs.size = some (dictOf [] 0) := Heap.get?_push_of_some _ (Heap.get?_push_size _ rfl)
  have I : Inst ((hh.push emptyDict).push (instObj C hh.objs.size)) C (hh.objs.size + 1) hh.objs.size [] := ⟨Nat.le_succ_of_le hs, hs, hx, [], 0, hd, .nil⟩
  have B₁ := (B.push emptyDict).push (instObj C hh.objs.size)
  refine Cn _ _ _ (G.keeps x1.keeps) x1 I _ _ _ rfl ⟨ok.hd, ?_, ?_⟩ fun v h' tk' x p => ?_
  · rw [depth_under_make]; have := ok.dp; omega
  · rw [units_under_make]; have := ok.un; omega
  · refine ⟨p.1, ?_⟩
    have x2 : Ext [] hh h' := fun b o e _ => x b o (x1.keeps b o e) (fun m => by
      rcases List.mem_cons.mp m with rfl | m
      · exact Nat.lt_irrefl _ (Heap.lt_size e)
      · cases m)
    have B₂ := B.ext x2 nil_mem
    have := h (hh.objs.size + 1) hh.objs.size h' tk' B₂ x2 (Nat.le_refl _) (Nat.le_succ _) p.2
    rwa [← S.st h' tk'] at this

theorem file_init_c {w : World} {h : Heap} {x dx : Addr} {nm : Str} {t : Tok} (G : G1 w h) (I : Inst h 88 x dx []) :
    Calls w 1 78 [.ref x, .str nm t] [dx] h (fun v h' => v = .none ∧ SpecAt h' x dx ⟨nm, "", "sequential", "sequential", "", [], "", ""⟩) := by
  refine Calls.mk (fs_FileSpec_init w _ _) G (fun d m => one_mem m (⟨I.2.1, I.lt2⟩)) fun A s g tg hz L E ok B x0 => ?_
  have I0 := I.keeps x0.keeps
  have hxL : x ≠ L := Nat.ne_of_lt (B.L0 ▸ I.lt1)
  have hdL : dx ≠ L := Nat.ne_of_lt (B.L0 ▸ I.lt2)
  have B0 := B
  refine wpAny_execs_cons (plainObj_wpAny_Assign_Attribute (n_ B0 ?_))
  refine n_ B0 (sa_ B0 (ss_FileSpec_name w) I0 (.inl (.head _)) hxL fun h1 tk1 B1 x1 I1 => ?_)
  rw [put_f1] at I1
  refine wpAny_execs_cons (plainObj_wpAny_Assign_Attribute (wpAny_Constant_str ?_))
  refine n_ B1 (sa_ B1 (ss_FileSpec_path w) I1 (.inl (.head _)) hxL fun h2 tk2 B2 x2 I2 => ?_)
  rw [put_f2] at I2
  refine wpAny_execs_cons (plainObj_wpAny_Assign_Attribute (wpAny_Constant_str ?_))
  refine n_ B2 (sa_ B2 (ss_FileSpec_organization w) I2 (.inl (.head _)) hxL fun h3 tk3 B3 x3 I3 => ?_)
  rw [put_f3] at I3
  refine wpAny_execs_cons (plainObj_wpAny_Assign_Attribute (wpAny_Constant_str ?_))
  refine n_ B3 (sa_ B3 (ss_FileSpec_access w) I3 (.inl (.head _)) hxL fun h4 tk4 B4 x4 I4 => ?_)
  rw [put_f4] at I4
  refine wpAny_execs_cons (plainObj_wpAny_Assign_Attribute (wpAny_Constant_str ?_))
  refine n_ B4 (sa_ B4 (ss_FileSpec_key w) I4 (.inl (.head _)) hxL fun h5 tk5 B5 x5 I5 => ?_)
  rw [put_f5] at I5
  refine wpAny_execs_cons (plainObj_wpAny_Assign_Attribute (wpAny_Tuple (args_nil ⟨Nat.zero_le _, ?_⟩)))
  have C6 := B5.push { cls := .type "tuple", data := .seq ([] : List Value).toArray }
  have J6 := I5.keeps (Ext.push _ { cls := .type "tuple", data := .seq ([] : List Value).toArray }).keeps
  refine n_ C6 (sa_ C6 (ss_FileSpec_alternates w) J6 (.inl (.head _)) hxL fun h6 tk6 B6 x6 I6 => ?_)
  rw [put_f6] at I6
  have T6 : IsTup h6 _ #[] := tup_ext (IsTup.new _ _) x6 (two_dict C6.isDict J6.isDict)
  refine wpAny_execs_cons (plainObj_wpAny_Assign_Attribute (wpAny_Constant_str ?_))
  refine n_ B6 (sa_ B6 (ss_FileSpec_relative_key w) I6 (.inl (.head _)) hxL fun h7 tk7 B7 x7 I7 => ?_)
  rw [put_f7] at I7
  have T7 := tup_ext T6 x7 (two_dict B6.isDict I6.isDict)
  refine wpAny_execs_cons (plainObj_wpAny_Assign_Attribute (wpAny_Constant_str ?_))
  refine n_ B7 (sa_ B7 (ss_FileSpec_status w) I7 (.inl (.head _)) hxL fun h8 tk8 B8 x8 I8 => ?_)
  rw [put_f8] at I8
  have T8 := tup_ext T7 x8 (two_dict B7.isDict I7.isDict)
  refine wpAny_execs_cons (plainObj_wpAny_Assign_Attribute (wpAny_Constant_bool ?_))
  refine n_ B8 (sa_ B8 (ss_FileSpec_is_sort w) I8 (.inl (.head _)) hxL fun h9 tk9 B9 x9 I9 => ?_)
  rw [put_f9] at I9
  have T9 := tup_ext T8 x9 (two_dict B8.isDict I8.isDict)
  refine wpAny_execs_cons (plainObj_wpAny_Assign_Attribute (wpAny_Tuple (args_nil ⟨Nat.zero_le _, ?_⟩)))
  have C10 := B9.push { cls := .type "tuple", data := .seq ([] : List Value).toArray }
  have J10 := I9.keeps (Ext.push _ { cls := .type "tuple", data := .seq ([] : List Value).toArray }).keeps
  refine n_ C10 (sa_ C10 (ss_FileSpec_records w) J10 (.inl (.head _)) hxL fun h10 tk10 B10 x10 I10 => ?_)
  rw [put_f10] at I10
  have T10 : IsTup h10 _ #[] := tup_ext (IsTup.new _ _) x10 (two_dict C10.isDict J10.isDict)
  have U10 := tup_ext (T9.push { cls := .type "tuple", data := .seq ([] : List Value).toArray }) x10 (two_dict C10.isDict J10.isDict)
  exact wpAny_execs_nil ⟨B10.x, ⟨rfl, _, _, _, _, _, _, _, _, _, I10, ⟨[], U10, .nil⟩, T10⟩, by walk_at "SM"⟩
theorem put_t1 (v0 : Value) : put ([] : List (Str × Value)) "kind" v0 = ([("kind", v0)] : List (Str × Value)) := by kernel_rfl
theorem put_t2 (v0 v1 : Value) : put ([("kind", v0)] : List (Str × Value)) "worth" v1 = ([("kind", v0), ("worth", v1)] : List (Str × Value)) := by kernel_rfl
theorem put_t3 (v0 v1 v2 : Value) : put ([("kind", v0), ("worth", v1)] : List (Str × Value)) "at" v2 = ([("kind", v0), ("worth", v1), ("at", v2)] : List (Str × Value)) := by kernel_rfl
theorem put_t4 (v0 v1 v2 v3 : Value) : put ([("kind", v0), ("worth", v1), ("at", v2)] : List (Str × Value)) "is_in_a" v3 = ([("kind", v0), ("worth", v1), ("at", v2), ("is_in_a", v3)] : List (Str × Value)) := by kernel_rfl
theorem put_r1 (v0 : Value) : put ([] : List (Str × Value)) "tokens" v0 = ([("tokens", v0)] : List (Str × Value)) := by kernel_rfl
theorem put_r2 (v0 v1 : Value) : put ([("tokens", v0)] : List (Str × Value)) "at" v1 = ([("tokens", v0), ("at", v1)] : List (Str × Value)) := by kernel_rfl
theorem put_r3 (v0 v1 v2 : Value) : put ([("tokens", v0), ("at", v1)] : List (Str × Value)) "named" v2 = ([("tokens", v0), ("at", v1), ("named", v2)] : List (Str × Value)) := by kernel_rfl

/-- a token, its dict at d -/
noncomputable def TKd (h : Heap) (a d : Addr) (tok : Tk) : Prop := ∃ t1 t2 atv b, Inst h 373 a d [("kind", .str tok.1 t1), ("worth", .str tok.2 t2), ("at", atv), ("is_in_a", .bool b)] ∧ handedIn atv = true
theorem token_init_c {w : World} {h : Heap} {x dx : Addr} {k wd : Str} {t u : Tok} (G : G1 w h) (I : Inst h 373 x dx []) :
    Calls w 1 363 [.ref x, .str k t, .str wd u] [dx] h (fun v h' => v = .none ∧ TKd h' x dx (k, wd)) := by
  refine Calls.mk (fs_Token_init_d w _ _ _) G (fun d m => one_mem m (⟨I.2.1, I.lt2⟩)) fun A s g tg hz L E ok B x0 => ?_
  have I0 := I.keeps x0.keeps
  have hxL : x ≠ L := Nat.ne_of_lt (B.L0 ▸ I.lt1)
  have B0 := B
  refine wpAny_execs_cons (plainObj_wpAny_Assign_Attribute (n_ B0 ?_))
  refine n_ B0 (sa_ B0 (ss_Token_kind w) I0 (.inl (.head _)) hxL fun h1 tk1 B1 x1 I1 => ?_)
  rw [put_t1] at I1
  refine wpAny_execs_cons (plainObj_wpAny_Assign_Attribute (n_ B1 ?_))
  refine n_ B1 (sa_ B1 (ss_Token_worth w) I1 (.inl (.head _)) hxL fun h2 tk2 B2 x2 I2 => ?_)
  rw [put_t2] at I2
  refine wpAny_execs_cons (plainObj_wpAny_Assign_Attribute (n_ B2 ?_))
  refine n_ B2 (sa_ B2 (ss_Token_at w) I2 (.inl (.head _)) hxL fun h3 tk3 B3 x3 I3 => ?_)
  rw [put_t3] at I3
  refine wpAny_execs_cons (plainObj_wpAny_Assign_Attribute (n_ B3 ?_))
  refine n_ B3 (sa_ B3 (ss_Token_is_in_a w) I3 (.inl (.head _)) hxL fun h4 tk4 B4 x4 I4 => ?_)
  rw [put_t4] at I4
  exact wpAny_execs_nil ⟨B4.x, ⟨rfl, _, _, _, _, I4, rfl⟩, by walk_at "SM"⟩
theorem reader_init_c {w : World} {h : Heap} {x dx tl : Addr} (G : G1 w h) (I : Inst h 343 x dx []) :
    Calls w 1 189 [.ref x, .ref tl] [dx] h (fun v h' => v = .none ∧ RD h' x dx tl 0) := by
  refine Calls.mk (fs_Reader_init_d w _ _) G (fun d m => one_mem m (⟨I.2.1, I.lt2⟩)) fun A s g tg hz L E ok B x0 => ?_
  have I0 := I.keeps x0.keeps
  have hxL : x ≠ L := Nat.ne_of_lt (B.L0 ▸ I.lt1)
  have B0 := B
  refine wpAny_execs_cons (plainObj_wpAny_Assign_Attribute (n_ B0 ?_))
  refine n_ B0 (sa_ B0 (ss_Reader_tokens w) I0 (.inl (.head _)) hxL fun h1 tk1 B1 x1 I1 => ?_)
  rw [put_r1] at I1
  refine wpAny_execs_cons (plainObj_wpAny_Assign_Attribute (n_ B1 ?_))
  refine n_ B1 (sa_ B1 (ss_Reader_at w) I1 (.inl (.head _)) hxL fun h2 tk2 B2 x2 I2 => ?_)
  rw [put_r2] at I2
  refine wpAny_execs_cons (plainObj_wpAny_Assign_Attribute (wpAny_Dict_empty ?_))
  have C2 := B2.push { cls := .type "dict", data := .dict #[] }
  have J2 := I2.keeps (Ext.push _ { cls := .type "dict", data := .dict #[] }).keeps
  refine n_ C2 (sa_ C2 (ss_Reader_named w) J2 (.inl (.head _)) hxL fun h3 tk3 B3 x3 I3 => ?_)
  rw [put_r3] at I3
  exact wpAny_execs_nil ⟨B3.x, ⟨rfl, _, _, I3⟩, by walk_at "SM"⟩
theorem mk_File (w : World) : makesIn (Kw w) 88 = true := by kernel_rfl
theorem mk_Token (w : World) : makesIn (Kw w) 373 = true := by kernel_rfl
theorem mk_Reader (w : World) : makesIn (Kw w) 343 = true := by kernel_rfl
theorem in_File (w : World) : findIn (Kw w) (.ref 88) "__init__" = some (some (.ref 78)) := by kernel_rfl
theorem in_Token (w : World) : findIn (Kw w) (.ref 373) "__init__" = some (some (.ref 363)) := by kernel_rfl
theorem in_Reader (w : World) : findIn (Kw w) (.ref 343) "__init__" = some (some (.ref 189)) := by kernel_rfl
theorem ft_File (w : World) : typeIn (Kw w) (.ref 78) = some (.type "function") := by kernel_rfl
theorem ft_Token (w : World) : typeIn (Kw w) (.ref 363) = some (.type "function") := by kernel_rfl
theorem ft_Reader (w : World) : typeIn (Kw w) (.ref 189) = some (.type "function") := by kernel_rfl
theorem kc_File (w : World) : keepIn (Kw w) (.ref 88) = true := by kernel_rfl
theorem kc_Token (w : World) : keepIn (Kw w) (.ref 373) = true := by kernel_rfl
theorem kc_Reader (w : World) : keepIn (Kw w) (.ref 343) = true := by kernel_rfl
theorem kc_Fault (w : World) : keepIn (Kw w) (.ref 60) = true := by kernel_rfl
noncomputable abbrev bmG : List Value := [.ref 47, .type "Exception", .type "BaseException", .type "object"]
noncomputable abbrev newExcObj (t : Addr) : Obj := { cls := .ref 60, data := .fields #[.ref t, .none, .none, .none, .bool false, .none] }
section
variable {w : World} {A : Around} {R : Result → Shared → Prop} {h : Heap} {g : Array GenState} {d : Drawn} {t : Nat} {os : OsState}
theorem gf_new {rest : List Value} (X : (Kw w).In h)
    (hq : R (.ok (.ret (.ref (h.objs.size + 1)))) ⟨(h.push { cls := .type "tuple", data := .seq rest.toArray }).push (newExcObj h.objs.size), g, d, t, os⟩) (hrest : rest.length ≤ sizeLine) :
    codeAny (Mw w) A (.builtin "Exception.__new__" ⟨.ref 60 :: rest, []⟩) R ⟨h, g, d, t, os⟩ := by
  have hC := X _ _ (show (K0 w.params).lookup 60 = some (o_60 w.params) by kernel_rfl)
  have F := PySem.F.excBase_Exception
  have hends := F.ends
  have hcB : (Value.ref 60 :: bmG).contains (.type "Exception") = true := by decide +kernel
  have hcA : (Value.ref 60 :: bmG).contains (.type "AttributeError") = false := by decide +kernel
  have hcN : (Value.ref 60 :: bmG).contains (.type "NameError") = false := by decide +kernel
  refine codeAny_builtinAt F.entry ?_
  unfold Builtin.«BaseException.__new__»
  refine PySem.wpAt_bind ?_
  show PySem.wpAt _ _ _ (stack >>= _) _ _ _
  refine PySem.wpAt_bind (PySem.wpAt_stack fun p below => PySem.wpAt_of_wpAny ?_)
  wp_walk
  refine PySem.wpAt_of_wpAny ?_
  rw [F.owner]
  repeat (first | with_reducible refine wpAny_madeHere_exc F.canon hC ?_ | with_reducible refine wpAny_loadPart_at hC ?_ | (with_reducible refine wpAny_isSubtype_exc hC ?_; first | rw [hcB] | rw [hcA] | rw [hcN]) | wp_step)
  show R _ _
  rw [Heap.size_push]
  exact hq
end
section
variable {w : World} {A : Around} {R : Result → Shared → Prop} {h : Heap} {g : Array GenState} {d : Drawn} {t : Nat} {os : OsState}
theorem gf_made (X : (Kw w).In h) : Looks (Mw w) h (Bind.madeBy (.ref 60)) (some "Exception.__new__") := fun A Q E s k q => by
  have hC := k _ _ (X _ _ (show (K0 w.params).lookup 60 = some (o_60 w.params) by kernel_rfl))
  obtain ⟨hh, g, d, t, os⟩ := s
  exact wpAny_madeBy_exc hC q
theorem gf_check {A : Around} {E : Value → Shared → Prop} {rest : List Value} {Q : Unit → Shared → Prop} (X : (Kw w).In h) (hq : Q () ⟨h, g, d, t, os⟩) : wpAny (Mw w) A (checkBuiltinCall "Exception.__new__" ⟨.ref 60 :: rest, []⟩) Q E ⟨h, g, d, t, os⟩ := by
  have hC := X _ _ (show (K0 w.params).lookup 60 = some (o_60 w.params) by kernel_rfl)
  have F := PySem.F.excBase_Exception
  have hcont : (Value.ref 60 :: bmG).contains (.type "Exception") = true := by decide +kernel
  have hstar := F.noStar
  simp only [checkBuiltinCall, F.newKind, F.newSplit, F.newRow]
  repeat (first | refine wpAny_loadPart_at hC ?_ | (refine wpAny_isSubtype_exc hC ?_; rw [hcont]) | refine wpAny_staticBase_exc hC ?_ | refine wpAny_madeBy_exc hC ?_ | simp only [bne_self_eq_false, Bool.false_eq_true, if_false] | wp_step)
  exact hq
theorem gf_core {rest : List Value} (X : (Kw w).In h) (hrest : rest.length ≤ sizeLine)
    (hq : codeAny (Mw w) (A.under (.builtin "type.__call__" ⟨.ref 60 :: rest, []⟩)) (.call (.ref 37) ⟨.ref (h.objs.size + 1) :: rest, []⟩) (InitBack (h.objs.size + 1) R) ⟨(h.push { cls := .type "tuple", data := .seq rest.toArray }).push (newExcObj h.objs.size), g, d, t, os⟩) :
    codeAny (Mw w) A (.call (.ref 60) ⟨rest, []⟩) R ⟨h, g, d, t, os⟩ := by
  have hC := X _ _ (show (K0 w.params).lookup 60 = some (o_60 w.params) by kernel_rfl)
  have call : Looks (Mw w) h (specialOf (.ref 60) "__call__") (some (.builtin "type.__call__")) := looks_specialIn X (by kernel_rfl)
  have typ : Looks (Mw w) h (isInstance (.ref 60) (.type "type")) true := looks_instIn X (by kernel_rfl)
  have made := gf_made X
  have self : Looks (Mw w) h (isSubtype (.ref 60) (.ref 60)) true := looks_subIn X (by kernel_rfl)
  have hi : Looks (Mw w) h (typeLookup (.ref 60) "__init__") (some (.ref 37)) := looks_findIn X (by kernel_rfl)
  refine codeAny_of_tree ?_
  show wpAny _ _ (callAny (.ref 60) _) _ _ _
  refine nd_load hC ?_
  show wpAny _ _ (callAny.viaDunder (.ref 60) _) _ _ _
  unfold callAny.viaDunder
  refine wpAny_bind (call.at ?_)
  dsimp only
  rw [tc_bind]
  refine wpAny_bind (wpAny_pure (wpAny_bind (wpAny_pure ?_)))
  refine wpAny_pure (a := Fin.again (.call (.builtin "type.__call__") ⟨.ref 60 :: rest, []⟩)) (And.intro rfl ?_)
  refine codeAny_call_builtin_at (Code.quiet_builtin _ (by decide +kernel)) entry_typeCall (check_slot tc_kind tc_split typ (tc_args _ _ _) ?_)
  unfold Builtin.«type.__call__»
  have hm : Looks (Mw w) h (mroOf (.ref 60)) (.ref 60 :: bmG) := ((Looks.ld (part := none) hC).andThen .now).andThen .now
  repeat (first | with_reducible refine wpAny_call ?_ | lk)
  refine codeAny_call_builtin_code (Code.quiet_builtin _ PySem.F.excBase_Exception.quiet) (gf_check X ?_)
  refine gf_new X ?_ hrest
  have k : ∀ b o, h.get? b = some o → ((h.push { cls := .type "tuple", data := .seq rest.toArray }).push (newExcObj h.objs.size)).get? b = some o := fun b o e => Heap.get?_push_of_some _ (Heap.get?_push_of_some _ e)
  have hx : ((h.push { cls := .type "tuple", data := .seq rest.toArray }).push (newExcObj h.objs.size)).get? (h.objs.size + 1) = some (newExcObj h.objs.size) := Heap.get?_push_at (by rw [Heap.size_push]) rfl
  have t1 : Looks (Mw w) ((h.push { cls := .type "tuple", data := .seq rest.toArray }).push (newExcObj h.objs.size)) (typeOf (.ref (h.objs.size + 1))) (.ref 60) := (Looks.ld hx).andThen .now
  have s1 := self.keeps k
  have i1 := hi.keeps k
  have b1 : Looks (Mw w) ((h.push { cls := .type "tuple", data := .seq rest.toArray }).push (newExcObj h.objs.size)) (bindSpecial (.ref 37) (.ref (h.objs.size + 1))) (.ref 37, [.ref (h.objs.size + 1)]) := (bind_fn X _ (by kernel_rfl)).keeps k
  show wpAny _ _ _ _ _ _
  unfold isInstance callSpecial? specialOf
  repeat (first | with_reducible refine wpAny_call ?_ | lk)
  refine codeAny_mono hq fun r s' z => ?_
  rcases r with e | (v | _ | _ | _) <;> first | exact z | exact z.elim | skip
  obtain ⟨rfl, z⟩ := z
  exact wpAny_pure (wpAny_pure z)
end
/-- a GrammarFault at e: its args t, its own dict holding mA -/
noncomputable def EI (h : Heap) (e t : Addr) (mA : Str → Option Value) : Prop :=
  ∃ o, h.get? e = some o ∧ o.cls = .ref 60 ∧ o.data = .fields #[.ref t, .none, .none, .none, .bool false, .none] ∧ o.slots = #[] ∧ ((o.dict = none ∧ ∀ n, mA n = none) ∨ ∃ dx, o.dict = some dx ∧ dx ≠ e ∧ h.Ns1 dx mA)
theorem refuse_gf (self : Value) : refuseLoop self "__setattr__" (.ref 60 :: bmG) = pure () := by
  rw [refuseLoop_ref, refuseLoop_ref]
  exact PySem.F.store_Exception.passes self
section
variable {w : World} {A : Around} {E : Value → Shared → Prop} {R : Result → Shared → Prop} {h : Heap} {g : Array GenState} {d : Drawn} {t : Nat} {os : OsState} {e ta : Addr} {mA : Str → Option Value} {name : Str} {v : Value}
theorem gs_entry {tk : Tok} {Q : Fin → Shared → Prop} {ns : List Str} (X : (Kw w).In h) (I : EI h e ta mA) (hf : findIn (Kw w) (.ref 60) name = some none) (hw : Within mA ns) (hns : ns.length ≤ 10)
    (hq : ∀ h' tk', EI h' e ta (fun y => if y = name then some v else mA y) → (∀ b o, b ≠ e → (∀ o₀ dx, h.get? e = some o₀ → o₀.dict = some dx → b ≠ dx) → h.get? b = some o → h'.get? b = some o) → (∀ o₁ dx, h'.get? e = some o₁ → o₁.dict = some dx → h.objs.size ≤ dx ∨ ∃ o₀, h.get? e = some o₀ ∧ o₀.dict = some dx) →
      Q (.done (.ret .none)) ⟨h', g, d, tk', os⟩) :
    wpAny (Mw w) A (Builtin.«object.__setattr__» ⟨[.ref e, .str name tk, v], []⟩) Q E ⟨h, g, d, t, os⟩ := by
  obtain ⟨⟨oc, od, odt, osl⟩, hx, hc, hdat, hsl, hd⟩ := I
  dsimp only at hc hdat hsl hd
  subst hc hdat hsl
  have hC := X _ _ (show (K0 w.params).lookup 60 = some (o_60 w.params) by kernel_rfl)
  have T1 : Looks (Mw w) h (typeOf (.ref e)) (.ref 60) := (Looks.ld hx).andThen .now
  have M1 : Looks (Mw w) h (mroOf (.ref 60)) (.ref 60 :: bmG) := ((Looks.ld (part := none) hC).andThen .now).andThen .now
  have L1 : Looks (Mw w) h (typeLookup (.ref 60) name) none := looks_findIn X hf
  rw [osa_eq, refuse_eq]
  refine wpAny_bind (wpAny_bind (T1.here (wpAny_bind (M1.here ?_))))
  rw [refuse_gf]
  refine wpAny_pure (wpAny_bind (T1.here (wpAny_bind (L1.here (wpAny_bind (wpAny_pure ?_))))))
  show wpAny _ _ (Builtin.ObjectAttr.storeInOwnDict (.ref e) (.ref 60) (.str name tk) name v false) _ _ _
  unfold Builtin.ObjectAttr.storeInOwnDict
  refine wpAny_bind (wpAny_pure ?_)
  show wpAny _ _ (instanceDict e true >>= _) _ _ _
  unfold instanceDict
  refine wpAny_bind (wpAny_bind (wpAny_loadPart hx ?_))
  dsimp only
  refine wpAny_bind (wpAny_bind (wpAny_load hC (wpAny_pure ?_)))
  rcases hd with ⟨hdn, hmA⟩ | ⟨dx, hdx, hne, hn1⟩
  · subst hdn
    show wpAny _ _ (alloc { cls := .type "dict", data := .dict #[] } >>= _) _ _ _
    have hx₁ : (h.push { cls := .type "dict", data := .dict #[] }).get? e = _ := Heap.get?_push_of_some _ hx
    have hxs : e ≠ h.objs.size := Nat.ne_of_lt (Heap.lt_size hx)
    refine wpAny_bind (wpAny_alloc' (wpAny_bind (wpAny_update' hx₁ (wpAny_pure ?_))))
    show wpAny _ _ (Builtin.ObjectAttr.storeInDict h.objs.size (.str name tk) name v) _ _ _
    have hgd : ((h.push { cls := .type "dict", data := .dict #[] }).update e fun o => { cls := o.cls, dict := some h.objs.size, data := o.data, slots := o.slots }).get? h.objs.size = some { cls := .type "dict", data := .dict #[] } :=
      (Heap.get?_update_ne _ _ _ _ hxs.symm).trans (Heap.get?_push_at rfl rfl)
    have hnd : ((h.push { cls := .type "dict", data := .dict #[] }).update e fun o => { cls := o.cls, dict := some h.objs.size, data := o.data, slots := o.slots }).Ns h.objs.size (fun _ => none) :=
      ⟨_, #[], _, hgd, rfl, fun e he => absurd he (by simp), fun _ => rfl⟩
    unfold Builtin.ObjectAttr.storeInDict Builtin.ObjectAttr.newKeyGuard
    refine wpAny_bind (wpAny_pure (wpAny_bind (wpAny_nsSet1 (Heap.Ns1.of_empty hnd) fun h' hn' hs => ?_)))
    obtain ⟨oD, esD, epD, hoD, hdD, hcD⟩ := hn'.count (Within.cons name v Within.nil)
    refine wpAny_bind (wpAny_lookBehind hoD (by rw [hdD]; exact pastItsLine_dict (Nat.le_trans hcD (by rw [List.length_cons, List.length_nil, sizeLine_eq]; omega))) (wpAny_pure ?_))
    refine hq h' _ ⟨{ cls := .ref 60, dict := some h.objs.size, data := .fields #[.ref ta, .none, .none, .none, .bool false, .none], slots := #[] }, ?_, rfl, rfl, rfl, .inr ⟨h.objs.size, rfl, hxs.symm, ?_⟩⟩ (fun b ob hbx _ hb => ?_) fun o₁ dx e1 e2 => .inl ?_
    · exact (hs.2 e hxs).trans (Heap.get?_update_self _ hx₁ rfl)
    · obtain ⟨o', es, ep, e1, e2, e3, eu, e4⟩ := hn'
      exact ⟨o', es, ep, e1, e2, e3, eu, fun y => by rw [e4 y]; by_cases hy : y = name <;> simp [hy, hmA]⟩
    · exact (hs.2 b (Nat.ne_of_lt (Heap.lt_size hb))).trans ((Heap.get?_update_ne _ _ _ _ hbx).trans (Heap.get?_push_of_some _ hb))
    · have := ((hs.2 e hxs).trans (Heap.get?_update_self _ hx₁ rfl)).symm.trans e1
      cases this
      cases e2
      exact Nat.le_refl _
  · subst hdx
    refine wpAny_pure ?_
    show wpAny _ _ (Builtin.ObjectAttr.storeInDict dx (.str name tk) name v) _ _ _
    unfold Builtin.ObjectAttr.storeInDict Builtin.ObjectAttr.newKeyGuard
    refine wpAny_bind (wpAny_pure (wpAny_bind (wpAny_nsSet1 hn1 fun h' hn' hs => ?_)))
    obtain ⟨oD, esD, epD, hoD, hdD, hcD⟩ := hn'.count (Within.cons name v hw)
    refine wpAny_bind (wpAny_lookBehind hoD (by rw [hdD]; exact pastItsLine_dict (Nat.le_trans hcD (by rw [List.length_cons, sizeLine_eq]; omega))) (wpAny_pure ?_))
    refine hq h' _ ⟨_, (hs.2 e hne.symm).trans hx, rfl, rfl, rfl, .inr ⟨dx, rfl, hne, hn'⟩⟩ (fun b ob _ hbd hb => (hs.2 b (hbd _ dx hx rfl)).trans hb) fun o₁ dx' e1 e2 => .inr ?_
    have := ((hs.2 e hne.symm).trans hx).symm.trans e1
    cases this
    exact ⟨_, hx, e2⟩
theorem gs_attr {Q : Unit → Shared → Prop} {ns : List Str} (X : (Kw w).In h) (I : EI h e ta mA) (hf : findIn (Kw w) (.ref 60) name = some none) (hw : Within mA ns) (hns : ns.length ≤ 10)
    (hq : ∀ h' tk', EI h' e ta (fun y => if y = name then some v else mA y) → (∀ b o, b ≠ e → (∀ o₀ dx, h.get? e = some o₀ → o₀.dict = some dx → b ≠ dx) → h.get? b = some o → h'.get? b = some o) → (∀ o₁ dx, h'.get? e = some o₁ → o₁.dict = some dx → h.objs.size ≤ dx ∨ ∃ o₀, h.get? e = some o₀ ∧ o₀.dict = some dx) → Q () ⟨h', g, d, tk', os⟩) :
    wpAny (Mw w) A (setAttr (.ref e) name v) Q E ⟨h, g, d, t, os⟩ := by
  have I' := I
  obtain ⟨⟨oc, od, odt, osl⟩, hx, hc, hdat, hsl, hd⟩ := I
  dsimp only at hc hdat hsl hd
  subst hc hdat hsl
  have T1 : Looks (Mw w) h (typeOf (.ref e)) (.ref 60) := (Looks.ld hx).andThen .now
  have SF := PySem.F.store_object
  have sub : Looks (Mw w) h (isInstance (.ref e) (.type "object")) true := T1.andThen (looks_subIn X (by kernel_rfl))
  refine wpAny_bind (wpAny_mkText (wpAny_bind (wpAny_bind (wpAny_bind (T1 _ _ _ _ (fun _ _ e => e) (looks_findIn X (show findIn (Kw w) (.ref 60) "__setattr__" = some (some (.builtin "object.__setattr__")) by kernel_rfl) _ _ _ _ (fun _ _ e => e) (wpAny_holding ?_)))))))
  rw [SF.slot.bind]
  refine wpAny_bind (wpAny_pure (wpAny_bind (wpAny_call ?_)))
  refine codeAny_call_builtin SF.slot.plain SF.entry (@check_slot (Mw w) _ _ ⟨h, g, d, t + 1, os⟩ "object.__setattr__" "object" "__setattr__" (.ref e) [.str name t, v] [] _ SF.kind SF.split sub (SF.args (.ref e) (.str name t) v) ?_)
  refine gs_entry X I' hf hw hns fun h' tk' I₂ k kd => ?_
  exact wpAny_pure (wpAny_pure (hq h' tk' I₂ k kd))
end
theorem fc_init (w : World) : findCls (Kw w) (.type "Exception") (.type "type") "__init__" = some (.val (.builtin "Exception.__init__")) := by kernel_rfl
section
variable {w : World} {A : Around} {E : Value → Shared → Prop} {R : Result → Shared → Prop} {h : Heap} {g : Array GenState} {d : Drawn} {t : Nat} {os : OsState} {e ta : Addr} {mA : Str → Option Value} {name : Str} {v : Value}
theorem gi_check {rest : List Value} {Q : Unit → Shared → Prop} (X : (Kw w).In h) (I : EI h e ta mA) (hq : Q () ⟨h, g, d, t, os⟩) : wpAny (Mw w) A (checkBuiltinCall "Exception.__init__" ⟨.ref e :: rest, []⟩) Q E ⟨h, g, d, t, os⟩ := by
  obtain ⟨oe, he, hcls, -⟩ := I
  have hC := X _ _ (show (K0 w.params).lookup 60 = some (o_60 w.params) by kernel_rfl)
  have F := PySem.F.excBase_Exception
  have hcB : (Value.ref 60 :: bmG).contains (.type "Exception") = true := by decide +kernel
  have hshort := F.noStar
  simp only [checkBuiltinCall, F.initKind, F.initSplit, F.initRow]
  repeat (first | (with_reducible refine wpAny_loadPart_at he ?_; rw [hcls]) | with_reducible refine wpAny_loadPart_at hC ?_ | (with_reducible refine wpAny_isSubtype_exc hC ?_; rw [hcB]) | wp_step)
  refine wpAny_onRaise ?_
  rw [show ∀ (a b : String) (n : Nat), Bind.check ⟨.positional, "*", "Exception", .self, [⟨"args", .varPos, false⟩]⟩ a b n (List.map (fun x => x.fst) ({ pos := Value.ref e :: rest } : Args).kw) = pure () from
    fun a b n => check_star_args _ _ _ _ _ _]
  exact wpAny_pure hq
theorem gi_init {Q : Value → Shared → Prop} (X : (Kw w).In h) (I : EI h e ta mA)
    (hq : ∀ h', EI h' e h.objs.size mA → (∀ b o, b ≠ e → h.get? b = some o → h'.get? b = some o) → (∀ o₁, h'.get? e = some o₁ → ∃ o₀, h.get? e = some o₀ ∧ o₀.dict = o₁.dict) → Q .none ⟨h', g, d, t, os⟩) :
    wpAny (Mw w) A (call (.builtin "Exception.__init__") [.ref e, v]) Q E ⟨h, g, d, t, os⟩ := by
  have F := PySem.F.excBase_Exception
  have I' := I
  obtain ⟨⟨oc, od, odt, osl⟩, hx, hc, hdat, hsl, hd⟩ := I
  dsimp only at hc hdat hsl hd
  subst hc hdat hsl
  refine wpAny_call (codeAny_call_builtin F.init.plain F.initEntry (gi_check X I' ?_))
  unfold Builtin.«BaseException.__init__»
  have hx1 := Heap.get?_push_of_some { cls := .type "tuple", data := .seq [v].toArray } hx
  wp_walk
  have k : ∀ b o, b ≠ e → h.get? b = some o → ((h.push { cls := .type "tuple", data := .seq #[v] }).update e (Obj.mapFields fun x => x.setIfInBounds 0 (Value.ref h.objs.size))).get? b = some o :=
    fun b o hb eb => (Heap.get?_update_ne _ _ _ _ hb).trans (Heap.get?_push_of_some _ eb)
  refine hq _ ⟨_, Heap.get?_update_self _ hx1 rfl, rfl, rfl, rfl, ?_⟩ k fun o₁ e1 => ⟨_, hx, by rw [(Heap.get?_update_self _ hx1 rfl)] at e1; cases e1; rfl⟩
  rcases hd with ⟨a, b⟩ | ⟨dx, a, b, c⟩
  · exact .inl ⟨a, b⟩
  · exact .inr ⟨dx, a, b, c.at fun o eo => k dx o b eo⟩
end
/-- a GrammarFault e, as a caller keeps it: made since h0 -/
noncomputable def Gf (h : Heap) (e : Addr) : Prop := ∃ t mA ns, EI h e t mA ∧ Within mA ns ∧ ns.length ≤ 3
theorem gf_init_c {w : World} {h : Heap} {e t0 : Addr} {what atv : Value} {mA : Str → Option Value} (G : G1 w h) (I : EI h e t0 mA) (hmA : ∀ n, mA n = none) (he : 409 ≤ e) (hnd : ∀ o, h.get? e = some o → o.dict = none) :
    Calls w 1 37 [.ref e, what, atv] [e] h (fun v h' => v = .none ∧ Gf h' e) := by
  have hlt : e < h.objs.size := let ⟨o, a, _⟩ := I; Heap.lt_size a
  refine Calls.mk (fs_LedgerError_init w _ _ _) G (fun d m => one_mem m (⟨he, hlt⟩)) fun A s g tg hz L E ok B x0 => ?_
  have hL : e ≠ L := Nat.ne_of_lt (B.L0 ▸ hlt)
  have I0 : EI g e t0 mA := by
    obtain ⟨o, a, b, c, d, r⟩ := I
    exact ⟨o, x0.keeps _ _ a, b, c, d, r.imp id fun ⟨dx, p, q, n⟩ => ⟨dx, p, q, n.at fun o eo => x0.keeps _ _ eo⟩⟩
  have hnd0 : ∀ o, g.get? e = some o → o.dict = none := fun o eo => by
    obtain ⟨o', a, _⟩ := I
    have := x0.keeps _ _ a
    rw [this] at eo; cases eo
    exact hnd _ a
  refine wpAny_execs_cons (wpAny_Expr_any (MethodCall_ (b_ B (gn_Exception w) ?_) rfl))
  refine method_type B.F B.G.X (kitMeta_of (by decide +kernel)) (by kernel_rfl) (fc_init w) rfl ?_
  refine PyProof.Rows.callWith_builtin1 (args_cons (n_ B (args_cons (n_ B (args_nil ?_)))))
  refine gi_init B.G1.X I0 fun h₁ I₁ k₁ kd₁ => ?_
  have x1 : Ext [e] g h₁ := fun b o eo n => k₁ b o (fun q => n (q ▸ .head _)) eo
  have B₁ := B.ext x1
  have hnd1 : ∀ o, h₁.get? e = some o → o.dict = none := fun o eo => by
    obtain ⟨o₀, a, b⟩ := kd₁ o eo
    rw [← b]; exact hnd0 _ a
  refine wpAny_execs_cons (plainObj_wpAny_Assign_Attribute (n_ B₁ (n_ B₁ ?_)))
  refine gs_attr B₁.G1.X I₁ (by kernel_rfl) (ns := []) (fun y hy => absurd (hmA y) hy) (Nat.zero_le _) fun h₂ tk₂ I₂ k₂ kd₂ => ?_
  have x2 : Ext [e] h₁ h₂ := fun b o eo n => k₂ b o (fun q => n (q ▸ .head _)) (fun o₀ dx e1 e2 => by rw [hnd1 _ e1] at e2; cases e2) eo
  have B₂ := B₁.ext x2
  refine wpAny_execs_cons (plainObj_wpAny_Assign_Attribute (n_ B₂ (n_ B₂ ?_)))
  refine gs_attr B₂.G1.X I₂ (by kernel_rfl) (ns := ["what"]) (Within.cons _ _ (fun y hy => absurd (hmA y) hy)) (Nat.le_of_ble_eq_true rfl) fun h₃ tk₃ I₃ k₃ kd₃ => ?_
  refine wpAny_execs_nil ⟨fun b o eo n => k₃ b o (fun q => n (q ▸ .head _)) (fun o₀ dx e1 e2 => ?_) (B₂.x b o eo n), ⟨rfl, _, _, _, I₃, Within.cons _ _ (Within.cons _ _ (show Within mA [] from fun y hy => absurd (hmA y) hy)), Nat.le_of_ble_eq_true rfl⟩, by walk_at "SM"⟩
  rcases kd₂ o₀ dx e1 e2 with q | ⟨o', a, b'⟩
  · rintro rfl
    have := Heap.lt_size (B₁.x b o eo n)
    exact Nat.lt_irrefl _ (Nat.lt_of_lt_of_le this q)
  · rw [hnd1 _ a] at b'; cases b'
theorem gfmake_ {w : World} {A : Around} {E : Value → Shared → Prop} {s σ : Shared} {D : List Addr} {h0 hz : Heap} {L : Addr} {ls : List (Str × Value)} {what atv : Value} {Q : Value → Shared → Prop}
    (B : Bd w D σ h0 L hz s.heap ls) (h : ∀ e h' tk', Bd w D σ h0 L hz h' ls → Ext [] s.heap h' → s.heap.objs.size ≤ e → Gf h' e → Q (.ref e) (St σ h' tk'))
    (ok : Ok A 2 := by walk_at "OK") (S : Same σ s := by walk_at "SM") : wpAny (Mw w) A (call (.ref 60) [what, atv]) Q E s := by
  refine wpAny_call ?_
  have G := B.G1
  have hs := G.size
  obtain ⟨hh, g, d, t, os⟩ := s
  refine gf_core G.X (szl rfl) ?_
  generalize hp : ({ cls := .type "tuple", data := .seq [what, atv].toArray } : Obj) = o1
  have x1 : Ext [] hh ((hh.push o1).push (newExcObj hh.objs.size)) := (Ext.push _ _).trans (Ext.push _ _)
  have hx : ((hh.push o1).push (newExcObj hh.objs.size)).get? (hh.objs.size + 1) = some (newExcObj hh.objs.size) := Heap.get?_push_at (by rw [Heap.size_push]) rfl
  have I : EI ((hh.push o1).push (newExcObj hh.objs.size)) (hh.objs.size + 1) hh.objs.size (fun _ => none) := ⟨_, hx, rfl, rfl, rfl, .inl ⟨rfl, fun _ => rfl⟩⟩
  refine gf_init_c (G.keeps x1.keeps) I (fun _ => rfl) (Nat.le_succ_of_le hs) (fun o eo => by rw [hx] at eo; cases eo; rfl) _ _ _ rfl ⟨ok.hd, ?_, ?_⟩ fun v h' tk' x p => ?_
  · rw [depth_under_make]; have := ok.dp; omega
  · rw [units_under_make]; have := ok.un; omega
  · refine ⟨p.1, ?_⟩
    have x2 : Ext [] hh h' := fun b o e _ => x b o (x1.keeps b o e) (fun m => by
      rcases List.mem_cons.mp m with rfl | m
      · exact absurd (Heap.lt_size e) (Nat.not_lt.mpr (Nat.le_succ _))
      · cases m)
    have := h (hh.objs.size + 1) h' tk' (B.ext x2 nil_mem) x2 (Nat.le_succ _) p.2
    rwa [← S.st h' tk'] at this
theorem fault_c {w : World} {h : Heap} {r d tl : Addr} {what : Str} {t1 : Tok} {ts : List (Addr × Tk)} {rem : List Tk} (G : G1 w h) (R : Rd h r d tl ts rem) (T : Toks h tl ts) (hne : 0 < ts.length) :
    Calls w 3 211 [.ref r, .str what t1] [] h (fun v h' => ∃ e, v = .ref e ∧ h.objs.size ≤ e ∧ Gf h' e) := by
  refine Calls.mk (fs_Reader_fault w _ _) G nil_mem fun A s g tg hz L E ok B x0 => ?_
  have T₁ := T.keeps x0.keeps
  obtain ⟨k, ⟨t, nm, I⟩, e, hk⟩ := R.keeps x0.keeps
  have hg : h.objs.size ≤ g.objs.size := by rw [← B.L0]; exact Nat.le_of_lt B.Llt
  refine wpAny_execs_cons (wpAny_If (isTrue_not (isTrue_plain (a_ B (as_Reader_tokens w) I ?_))))
  refine wpAny_truthy_list (items := (ts.map fun p => Value.ref p.1).toArray) T₁.isList (by have := T.few; simp; omega) ?_
  have e0 : (ts.map fun p => Value.ref p.1).toArray.isEmpty = false := by cases ts with
    | nil => cases hne
    | cons p r => rfl
  rw [e0]
  refine wpAny_execs_nil (wpAny_execs_cons (wpAny_Return_some (f2_ B (gl_GrammarFault w) (kc_Fault w) (n_ B (av_ (Subscript_ (a_ B (as_Reader_tokens w) I ?_)))))))
  refine mono_q (fun v s' => ∃ h' tk' j tj, s' = St s h' tk' ∧ v = .int ((j : Nat) : Int) tj ∧ j < ts.length ∧ Bd w [] s h L hz h' [("what", .str what t1), ("self", .ref r)] ∧ Ext [] g h') ?_ ?_
  · refine Call_ (b_ B (gn_min w) ?_)
    refine PyProof.Rows.callWith_builtin1 (args_cons (a_ B (as_Reader_at w) I (args_cons (wpAny_BinOp (Call_ (b_ B (gn_len w) (PyProof.Rows.callWith_builtin1 (args_cons (a_ B (as_Reader_tokens w) I (args_nil ?_))))))))))
    refine call_len_list (items := (ts.map fun p => Value.ref p.1).toArray) T₁.isList (by have := T.few; simp; omega) ?_
    refine wpAny_Constant_int (sub_int (args_nil ?_))
    refine min_two_ints ok.hd fun h₂ tk₂ hk2 => ?_
    have x2 : Ext [] g h₂ := Ext.ofKeeps hk2
    have B₂ := B.ext x2 nil_mem
    have hl : ((ts.map fun p => Value.ref p.1).toArray.size : Int) = (ts.length : Int) := by simp
    rw [hl]
    by_cases hc : (ts.length : Int) - 1 < (k : Int)
    · rw [if_pos hc]
      exact ⟨h₂, _, ts.length - 1, _, rfl, (by rw [show ((ts.length - 1 : Nat) : Int) = (ts.length : Int) - 1 by omega]), by omega, B₂, x2⟩
    · rw [if_neg hc]
      exact ⟨h₂, _, k, _, rfl, rfl, by omega, B₂, x2⟩
  · rintro v s' ⟨h₂, tk₂, j, tj, rfl, rfl, hj, B₂, x2⟩
    have T₂ := T₁.keeps x2.keeps
    refine tail_any T₂.isList.typeIs slot_list_getitem.lookup (wpAny_getItem_list T₂.isList (by omega) (by have := T.few; omega) (x := .ref (ts[j]).1) ?_ ?_) (by with_unfolding_all rfl)
    · rw [show ((j : Nat) : Int).toNat = j by omega]
      simp [hj]
    · obtain ⟨d', t1', t2, atv, b, I', hv⟩ := T₂.tk ts[j] (List.getElem_mem hj)
      refine ⟨_, 373, d', _, atv, rfl, ⟨_, _, B₂.G, B₂.F⟩, as_Token_at w, I', rfl, hv, ⟨_, B₂.F⟩, ?_⟩
      refine gfmake_ (s := St s h₂ (tk₂ + 1)) B₂ fun e h' tk' B' x' he Gfe => ?_
      refine ⟨B'.x, ⟨e, rfl, ?_, Gfe⟩, by walk_at "SM"⟩
      have h2 : h.objs.size ≤ h₂.objs.size := by rw [← B.L0]; exact Nat.le_of_lt B₂.Llt
      exact Nat.le_trans h2 he
theorem pl_isList {h : Heap} {l : Addr} {items : Array Value} (P : h.PlainList l items) : h.IsList l items := let ⟨n, e⟩ := P; ⟨_, e, rfl, n, rfl⟩
theorem pl_ext {h h' : Heap} {D : List Addr} {l : Addr} {items : Array Value} (P : h.PlainList l items) (x : Ext D h h') (n : l ∉ D) : h'.PlainList l items := let ⟨k, e⟩ := P; ⟨k, x _ _ e n⟩
theorem app_ {w : World} {A : Around} {E : Value → Shared → Prop} {s σ : Shared} {D : List Addr} {h0 hz : Heap} {L : Addr} {ls : List (Str × Value)} {l : Addr} {items : Array Value} {x : Value} {Q : Value → Shared → Prop}
    (B : Bd w D σ h0 L hz s.heap ls) (hl : s.heap.PlainList l items) (hd : l ∈ D ∨ L < l) (hsz : items.size ≤ 100000)
    (h : ∀ h' tk', Bd w D σ h0 L hz h' ls → Ext [l] s.heap h' → h'.PlainList l (items.push x) → Q .none (St σ h' tk')) (S : Same σ s := by walk_at "SM") :
    wpAny (Mw w) A (call (.builtin "list.append") [.ref l, x]) Q E s := by
  refine wpAny_list_append_plain hl (fun h' hl' hs => ?_) (by rw [sizeLine_eq]; omega)
  have x1 : Ext [l] s.heap h' := fun b o e n => (hs.2 b fun q => n (q ▸ .head _)).trans e
  have := h h' s.toks (B.ext x1 (fun y m => one_mem m (hd))) x1 hl'
  rwa [← S.st h' s.toks] at this
theorem tup_extL {h h' : Heap} {a l : Addr} {items its : Array Value} (T : IsTup h a items) (x : Ext [l] h h') (P : h.PlainList l its) : IsTup h' a items := by
  obtain ⟨o, ho, hc, r⟩ := T
  refine ⟨o, x _ _ ho (nin1 ?_), hc, r⟩
  rintro rfl
  obtain ⟨n, e⟩ := P
  rw [ho] at e; cases e
  exact absurd (Value.type.inj hc) (by decide)
theorem Pairs.extL {h h' : Heap} {l : Addr} {its : Array Value} {vs as} (P : Pairs h vs as) (x : Ext [l] h h') (M : h.PlainList l its) : Pairs h' vs as := by
  induction P with
  | nil => exact .nil
  | cons p _ ih =>
    obtain ⟨a, t, rfl, T⟩ := p
    exact .cons ⟨a, t, rfl, tup_extL T x M⟩ ih
theorem SpecAt.extL {h h' : Heap} {l sp sd : Addr} {its : Array Value} {S : Spec} (P : SpecAt h sp sd S) (x : Ext [l] h h') (M : h.PlainList l its) : SpecAt h' sp sd S := by
  obtain ⟨t1, t2, t3, t4, t5, t6, t7, al, rc, I, ⟨vs, a, ps⟩, b⟩ := P
  obtain ⟨n, e⟩ := id M
  refine ⟨t1, t2, t3, t4, t5, t6, t7, al, rc, I.ext x (nin1 ?_) (nin1 ?_), ⟨vs, tup_extL a x M, ps.extL x M⟩, tup_extL b x M⟩
  · rintro rfl
    have := I.2.2.1
    rw [e] at this; cases this
  · rintro rfl
    obtain ⟨_, _, _, _, _, e2, _⟩ := I
    rw [e] at e2
    have := congrArg Obj.data (Option.some.inj e2)
    cases this
/-- reader.fault(..), where there is a token -/
theorem rfault_ {w : World} {A : Around} {E : Value → Shared → Prop} {s σ : Shared} {hz h0 : Heap} {L f : Addr} {D : List Addr} {ls : List (Str × Value)} {qn : Str} {sc : Scope} {cd : Value}
    {r d tl : Addr} {ts : List (Addr × Tk)} {rem : List Tk} {x : Str} {xp apos pos cp : Pos} {ck : Nat} {y : Str} {Q : Value → Shared → Prop} (B : Bd w D σ h0 L hz s.heap ls) (R : Rd s.heap r d tl ts rem) (T : Toks hz tl ts) (hne : 0 < ts.length)
    (h : ∀ e h' tk', Bd w D σ h0 L hz h' ls → Ext [] s.heap h' → s.heap.objs.size ≤ e → Gf h' e → Q (.ref e) (St σ h' tk'))
    (ok : Ok A 3 := by walk_at "OK") (S : Same σ s := by walk_at "SM")
    (S' : Loc sc x := by walk_at "LOC") (hx : look ls x = some (.ref r) := by walk_at "LK")
    (he : starEach [.Constant (.str y) ck cp] (envOf qn sc L f cd) = [(false, eval (.Constant (.str y) ck cp) (envOf qn sc L f cd))] := by rfl)
    (hc : eval (.Call (.Attribute (.Name x xp) "fault" apos) [.Constant (.str y) ck cp] [] pos) (envOf qn sc L f cd) = (do
      let ov ← eval (.Name x xp) (envOf qn sc L f cd)
      standAt apos.atName
      let (g, first) ← holding [ov] (getMethod ov "fault" (do return (← importBound (.Name x xp) (envOf qn sc L f cd)).getD true))
      callWith pos g first (backTo pos (starEach [.Constant (.str y) ck cp] (envOf qn sc L f cd))) []) := by rfl) :
    wpAny (Mw w) A (eval (.Call (.Attribute (.Name x xp) "fault" apos) [.Constant (.str y) ck cp] [] pos) (envOf qn sc L f cd)) Q E s := by
  obtain ⟨k, t, nm, I⟩ := R.inst
  refine m1_ B (ms_Reader_fault w) I (wpAny_Constant_str ⟨⟨_, B.F⟩, ?_⟩) S' hx rfl he hc
  refine Bd.use (s := { s with toks := s.toks + 1 }) B (fault_c B.G1 R (T.keeps B.keep) hne) (fun v h' tk' B' x' p => ?_) ⟨by rw [S.eq]⟩ ok nil_mem
  obtain ⟨e, rfl, he, g⟩ := p
  exact h e h' tk' B' x' he g
noncomputable def behindB (rem : List Tk) : Bool := rem.isEmpty || (heads ["DATA", "DIVISION"] rem || heads ["PROCEDURE", "DIVISION"] rem)
theorem is_behind_c {w : World} {h : Heap} {r d tl : Addr} {ts : List (Addr × Tk)} {rem : List Tk} (G : G1 w h) (R : Rd h r d tl ts rem) (T : Toks h tl ts) :
    Calls w 4 153 [.ref r] [] h (fun v _ => v = .bool (behindB rem)) := by
  refine Calls.mk (fs_is_behind w _) G nil_mem fun A s g tg hz L E ok B x0 => cutK fun K hK => ?_
  have T₁ := T.keeps x0.keeps
  have Tz : Toks hz tl ts := by rw [B.hz]; exact T
  have R₁ := R.keeps x0.keeps
  refine wpAny_execs_cons (wpAny_Return_some (BoolOp_or (rm0_ B R₁ (ms_Reader_is_done w) (is_done_r B.G1 R₁ (Tz.keeps B.keep)) fun v h₂ tk₂ B₂ x2 p => ?_)))
  subst p
  have R₂ := R₁.keeps x2.keeps
  refine wpAny_truthy_bool ?_
  cases h1 : rem.isEmpty with
  | true => exact hK _ _ ⟨B₂.x, (by unfold behindB; rw [h1]; rfl), by walk_at "SM"⟩
  | false =>
  refine BoolOp_or (risword_ ["DATA", "DIVISION"] B₂ R₂ Tz fun h₃ tk₃ B₃ x3 => wpAny_truthy_bool ?_)
  have R₃ := R₂.keeps x3.keeps
  cases h2 : heads ["DATA", "DIVISION"] rem with
  | true => exact hK _ _ ⟨B₃.x, (by unfold behindB; rw [h1, h2]; rfl), by walk_at "SM"⟩
  | false => exact BoolOp_one (risword_ ["PROCEDURE", "DIVISION"] B₃ R₃ Tz fun h₄ tk₄ B₄ x4 => hK _ _ ⟨B₄.x, (by unfold behindB; rw [h1, h2]; rfl), by walk_at "SM"⟩)
noncomputable def untilP (p : List Tk → Bool) : List Tk → List Tk
  | [] => []
  | t :: r => if p (t :: r) then t :: r else untilP p r
/-- reader.need_sign(sign) where it stands -/
theorem rneed_ {w : World} {A : Around} {E : Value → Shared → Prop} {s σ : Shared} {hz h0 : Heap} {L f : Addr} {D : List Addr} {ls : List (Str × Value)} {qn : Str} {sc : Scope} {cd : Value}
    {r d tl : Addr} {ts : List (Addr × Tk)} {rem : List Tk} {x : Str} {xp apos pos cp : Pos} {ck : Nat} {y : Str} {Q : Value → Shared → Prop} (B : Bd w D σ h0 L hz s.heap ls) (R : Rd s.heap r d tl ts (("sign", y) :: rem)) (T : Toks hz tl ts)
    (h : ∀ v h' tk', Bd w D σ h0 L hz h' ls → Ext [d] s.heap h' → Rd h' r d tl ts rem → Q v (St σ h' tk'))
    (hd : d ∈ D ∨ L < d := by walk_at "DD") (ok : Ok A 5 := by walk_at "OK") (S : Same σ s := by walk_at "SM")
    (S' : Loc sc x := by walk_at "LOC") (hx : look ls x = some (.ref r) := by walk_at "LK")
    (he : starEach [.Constant (.str y) ck cp] (envOf qn sc L f cd) = [(false, eval (.Constant (.str y) ck cp) (envOf qn sc L f cd))] := by rfl)
    (hc : eval (.Call (.Attribute (.Name x xp) "need_sign" apos) [.Constant (.str y) ck cp] [] pos) (envOf qn sc L f cd) = (do
      let ov ← eval (.Name x xp) (envOf qn sc L f cd)
      standAt apos.atName
      let (g, first) ← holding [ov] (getMethod ov "need_sign" (do return (← importBound (.Name x xp) (envOf qn sc L f cd)).getD true))
      callWith pos g first (backTo pos (starEach [.Constant (.str y) ck cp] (envOf qn sc L f cd))) []) := by rfl) :
    wpAny (Mw w) A (eval (.Call (.Attribute (.Name x xp) "need_sign" apos) [.Constant (.str y) ck cp] [] pos) (envOf qn sc L f cd)) Q E s := by
  obtain ⟨k, t, nm, I⟩ := R.inst
  have hs : ∀ x ∈ [d], x ∈ D ∨ L < x := fun x m => one_mem m (hd)
  refine m1_ B (ms_Reader_need_sign w) I (wpAny_Constant_str ⟨⟨_, B.F⟩, ?_⟩) S' hx rfl he hc
  exact Bd.use (s := { s with toks := s.toks + 1 }) B (need_sign_c B.G1 R (T.keeps (B.over hs))) (fun v h' tk' B' x' p => h v h' tk' B' x' p) ⟨by rw [S.eq]⟩ ok hs
/-- reader.need(words) where they stand -/
theorem rneedw_ {w : World} {A : Around} {E : Value → Shared → Prop} {s σ : Shared} {hz h0 : Heap} {L f : Addr} {D : List Addr} {ls : List (Str × Value)} {qn : Str} {sc : Scope} {cd : Value}
    {r d tl : Addr} {ts : List (Addr × Tk)} {rem : List Tk} {x : Str} {xp apos pos cp : Pos} {ck : Nat} {y : Str} {Q : Value → Shared → Prop} (ws : List Str) (B : Bd w D σ h0 L hz s.heap ls) (R : Rd s.heap r d tl ts rem) (T : Toks hz tl ts) (hh : heads ws rem = true)
    (h : ∀ v h' tk', Bd w D σ h0 L hz h' ls → Ext [d] s.heap h' → Rd h' r d tl ts (rem.drop ws.length) → Q v (St σ h' tk'))
    (hd : d ∈ D ∨ L < d := by walk_at "DD") (ok : Ok A 5 := by walk_at "OK") (S : Same σ s := by walk_at "SM") (hw : Txt.split y " " = ws := by decide +kernel) (hy : y.length ≤ 1000 := by decide +kernel) (hl : ws.length ≤ 1000 := by decide +kernel)
    (S' : Loc sc x := by walk_at "LOC") (hx : look ls x = some (.ref r) := by walk_at "LK")
    (he : starEach [.Constant (.str y) ck cp] (envOf qn sc L f cd) = [(false, eval (.Constant (.str y) ck cp) (envOf qn sc L f cd))] := by rfl)
    (hc : eval (.Call (.Attribute (.Name x xp) "need" apos) [.Constant (.str y) ck cp] [] pos) (envOf qn sc L f cd) = (do
      let ov ← eval (.Name x xp) (envOf qn sc L f cd)
      standAt apos.atName
      let (g, first) ← holding [ov] (getMethod ov "need" (do return (← importBound (.Name x xp) (envOf qn sc L f cd)).getD true))
      callWith pos g first (backTo pos (starEach [.Constant (.str y) ck cp] (envOf qn sc L f cd))) []) := by rfl) :
    wpAny (Mw w) A (eval (.Call (.Attribute (.Name x xp) "need" apos) [.Constant (.str y) ck cp] [] pos) (envOf qn sc L f cd)) Q E s := by
  obtain ⟨k, t, nm, I⟩ := R.inst
  have hs : ∀ x ∈ [d], x ∈ D ∨ L < x := fun x m => one_mem m (hd)
  refine m1_ B (ms_Reader_need w) I (wpAny_Constant_str ⟨⟨_, B.F⟩, ?_⟩) S' hx rfl he hc
  exact Bd.use (s := { s with toks := s.toks + 1 }) B (need_c ws B.G1 R (T.keeps (B.over hs)) hh hw hy hl) (fun v h' tk' B' x' p => h v h' tk' B' x' p) ⟨by rw [S.eq]⟩ ok hs
noncomputable def stopB (rem : List Tk) : Bool := behindB rem || heads ["INPUT-OUTPUT", "SECTION"] rem
theorem stop_nil : stopB [] = true := rfl
theorem pass_conf_c {w : World} {h : Heap} {r d tl : Addr} {ts : List (Addr × Tk)} {rem rem' : List Tk} (G : G1 w h) (R : Rd h r d tl ts rem) (T : Toks (hideAll h [d]) tl ts)
    (hh : if heads ["CONFIGURATION", "SECTION"] rem = true then ∃ r1, rem.drop 2 = (("sign", ".") : Tk) :: r1 ∧ rem' = untilP stopB r1 else rem' = rem) :
    Calls w 6 160 [.ref r] [d] h (fun _ h' => Rd h' r d tl ts rem') := by
  refine Calls.mk (fs_pass_configuration w _) G R.hD fun A s g tg hz L E ok B x0 => cutK fun K hK => ?_
  have T : Toks hz tl ts := B.hz ▸ T
  have R₁ := R.keeps x0.keeps
  refine wpAny_execs_cons (wpAny_If (isTrue_not (isTrue_plain (rskip_ ["CONFIGURATION", "SECTION"] B R₁ T fun h₂ tk₂ B₂ x2 R₂ => wpAny_truthy_bool ?_))))
  cases hc : heads ["CONFIGURATION", "SECTION"] rem with
  | false =>
    rw [hc] at hh
    rw [after_f hc] at R₂
    have hh : rem' = rem := hh
    rw [hh] at hK
    exact wpAny_execs_cons (wpAny_Return_none (hK _ _ ⟨B₂.x, R₂, by walk_at "SM"⟩))
  | true =>
    rw [hc] at hh
    rw [after_t hc] at R₂
    obtain ⟨r1, e1, e2⟩ : ∃ r1, rem.drop 2 = (("sign", ".") : Tk) :: r1 ∧ rem' = untilP stopB r1 := hh
    have R₂ : Rd h₂ r d tl ts (rem.drop 2) := R₂
    rw [e1] at R₂
    rw [e2] at hK
    refine wpAny_execs_nil (wpAny_execs_cons (wpAny_Expr_any (rneed_ B₂ R₂ T fun v h₃ tk₃ B₃ x3 R₃ => ?_)))
    refine wpAny_execs_cons (wpAny_While (while_ (σ := s) (fun n h' => ∃ rem, n = rem.length ∧ Bd w [d] s h L hz h' [("reader", .ref r)] ∧ Rd h' r d tl ts rem ∧ untilP stopB rem = untilP stopB r1) _ ⟨r1, rfl, B₃, R₃, rfl⟩ fun n h₄ tk₄ E' I => ?_))
    obtain ⟨rem₁, rfl, B₄, R₄, hu⟩ := I
    refine isTrue_and (isTrue_not (isTrue_plain (f1_ B₄ (gl_is_behind w) (kp_is_behind w) (n_ B₄ ⟨⟨_, B₄.F⟩, ?_⟩))))
    refine B₄.use (is_behind_c B₄.G1 R₄ (T.keeps B₄.keep)) fun v h₅ tk₅ B₅ x5 p => ?_
    subst p
    have R₅ := R₄.keeps x5.keeps
    refine wpAny_truthy_bool ?_
    have fin : ∀ {h₆ tk₆}, Bd w [d] s h L hz h₆ [("reader", .ref r)] → Rd h₆ r d tl ts rem₁ → stopB rem₁ = true → K .next (St s h₆ tk₆) := fun {h₆ tk₆} B₆ R₆ hs => by
      have : untilP stopB rem₁ = rem₁ := by
        cases rem₁ with
        | nil => rfl
        | cons t rr => unfold untilP; rw [hs]; rfl
      rw [this] at hu
      rw [← hu] at hK
      exact hK _ _ ⟨B₆.x, R₆, by walk_at "SM"⟩
    cases hb : behindB rem₁ with
    | true => exact wpAny_execs_nil (fin B₅ R₅ (by unfold stopB; rw [hb]; rfl))
    | false =>
      refine isTrue_and (isTrue_not (isTrue_plain (risword_ ["INPUT-OUTPUT", "SECTION"] B₅ R₅ T fun h₆ tk₆ B₆ x6 => wpAny_truthy_bool ?_)))
      have R₆ := R₅.keeps x6.keeps
      cases hi : heads ["INPUT-OUTPUT", "SECTION"] rem₁ with
      | true => exact wpAny_execs_nil (fin B₆ R₆ (by unfold stopB; rw [hb, hi]; rfl))
      | false =>
        cases rem₁ with
        | nil => cases hb
        | cons t rr =>
          refine isTrue_and_nil (wpAny_execs_cons (wpAny_Expr_any (rm0_ B₆ R₆ (ms_Reader_take w) (take_c B₆.G1 R₆ (T.keeps B₆.over)) fun v h₇ tk₇ B₇ x7 p => ?_)))
          refine wpAny_execs_nil ⟨by walk_at "SM", rr.length, Nat.lt_succ_self _, rr, rfl, B₇, p.2, ?_⟩
          rw [← hu]
          have hs : stopB (t :: rr) = false := by unfold stopB; rw [hb, hi]; rfl
          show _ = if stopB (t :: rr) = true then t :: rr else untilP stopB rr
          rw [hs]; rfl
/-- the specifications found, made after fd -/
inductive FoundIs (h : Heap) (fd : Addr) : List (Str × Value) → List Spec → Prop
  | nil : FoundIs h fd [] []
  | cons {sp sd S kvs Ss} : SpecAt h sp sd S → fd < sd → FoundIs h fd kvs Ss → FoundIs h fd ((S.name, .ref sp) :: kvs) (S :: Ss)
theorem FoundIs.snoc {h : Heap} {fd sp sd : Addr} {S : Spec} {kvs Ss} (F : FoundIs h fd kvs Ss) (P : SpecAt h sp sd S) (l : fd < sd) : FoundIs h fd (kvs ++ [(S.name, .ref sp)]) (Ss ++ [S]) := by
  induction F with
  | nil => exact .cons P l .nil
  | cons p q _ ih => exact .cons p q ih
theorem FoundIs.ext {h h' : Heap} {fd : Addr} {kvs Ss} {D : List Addr} (F : FoundIs h fd kvs Ss) (x : Ext D h h') (hD : ∀ d ∈ D, isDict h d ∧ d ≤ fd) : FoundIs h' fd kvs Ss := by
  induction F with
  | nil => exact .nil
  | cons p q _ ih => exact .cons (p.ext x (fun d m => (hD d m).1) fun m => Nat.lt_irrefl _ (Nat.lt_of_lt_of_le q (hD _ m).2)) q ih
theorem FoundIs.kp {h h' : Heap} {fd : Addr} {kvs Ss} (F : FoundIs h fd kvs Ss) (x : Ext [] h h') : FoundIs h' fd kvs Ss := F.ext x fun _ m => nomatch m
theorem FoundIs.names {h : Heap} {fd : Addr} {kvs Ss} (F : FoundIs h fd kvs Ss) : kvs.map (·.1) = Ss.map (·.name) := by
  induction F with
  | nil => rfl
  | cons _ _ _ ih => simp [ih]
theorem FoundIs.length {h : Heap} {fd : Addr} {kvs Ss} (F : FoundIs h fd kvs Ss) : kvs.length = Ss.length := by
  have := congrArg List.length F.names
  simpa using this
noncomputable abbrev DictS (w : World) (h : Heap) (d : Addr) (kvs : List (Str × Value)) : Prop := h.DictOf (strKind PR w) d kvs
theorem dicts_ext {w : World} {h h' : Heap} {D : List Addr} {d : Addr} {kvs} (P : DictS w h d kvs) (x : Ext D h h') (n : d ∉ D) : DictS w h' d kvs := let ⟨o, es, ep, e, r⟩ := P; ⟨o, es, ep, x _ _ e n, r⟩
theorem dicts_isDict {w : World} {h : Heap} {d : Addr} {kvs} (P : DictS w h d kvs) : isDict h d := let ⟨o, es, ep, e, _, hd, _⟩ := P; ⟨o, es, ep, e, hd⟩
theorem dicts_new (w : World) (h : Heap) : DictS w (h.push { cls := .type "dict", data := .dict #[] }) h.objs.size [] :=
  ⟨_, #[], 0, Heap.get?_push_size _ rfl, ⟨rfl, rfl, rfl⟩, rfl, (by intro e he; simp at he), .nil, .nil⟩
theorem valueAt_none {kvs : List (Str × Value)} {x : Str} (h : (kvs.map (·.1)).any (· == x) = false) : valueAt kvs x = none := by
  unfold valueAt
  rw [Option.map_eq_none_iff, List.find?_eq_none]
  intro p hp
  rw [List.any_eq_false] at h
  have := h p.1 (List.mem_map_of_mem hp)
  simpa using this
theorem read_env_none {w : World} {h : Heap} {r d tl : Addr} {ts : List (Addr × Tk)} {rem : List Tk} (G : G1 w h) (R : Rd h r d tl ts rem) (T : Toks (hideAll h [d]) tl ts) (hh : heads ["ENVIRONMENT", "DIVISION"] rem = false) :
    Calls w 9 167 [.ref r] [d] h (fun v h' => ∃ fd, v = .ref fd ∧ h.objs.size ≤ fd ∧ Rd h' r d tl ts rem ∧ DictS w h' fd []) := by
  refine Calls.mk (fs_read_environment w _) G R.hD fun A s g tg hz L E ok B x0 => cutK fun K hK => ?_
  have T : Toks hz tl ts := B.hz ▸ T
  have R₁ := R.keeps x0.keeps
  have hrL : r ≠ L := Nat.ne_of_lt (B.L0 ▸ R.lt.1)
  have hdL : d ≠ L := Nat.ne_of_lt (B.L0 ▸ R.lt.2.2)
  have hgL : L < g.objs.size := B.Llt
  refine wpAny_execs_cons (as_name (wpAny_Dict_empty ?_))
  have B₁ := B.push { cls := .type "dict", data := .dict #[] }
  have D₁ := dicts_new w g
  have R₂ := R₁.keeps (Ext.push g { cls := .type "dict", data := .dict #[] }).keeps
  refine s_ B₁ fun h₂ tk₂ B₂ x2 => ?_
  have R₂ := R₂.ext x2 (nin1 hrL) (nin1 hdL)
  have D₂ := dicts_ext D₁ x2 (nin1 (Nat.ne_of_gt hgL))
  refine wpAny_execs_cons (wpAny_If (isTrue_not (isTrue_plain (rskip_ ["ENVIRONMENT", "DIVISION"] B₂ R₂ T fun h₃ tk₃ B₃ x3 R₃ => wpAny_truthy_bool ?_))))
  rw [hh]
  rw [after_f hh] at R₃
  have D₃ := dicts_ext D₂ x3 (nin1 (Nat.ne_of_gt R₁.lt.2.2))
  exact wpAny_execs_cons (wpAny_Return_some (n_ B₃ (hK _ _ ⟨B₃.x, ⟨_, rfl, Nat.le_of_lt (B.L0 ▸ hgL), R₃, D₃⟩, by walk_at "SM"⟩)))
/-- a told specification -/
noncomputable def Told (h : Heap) (a : Addr) (S : Spec) : Prop := ∃ t1 t2 t3 t4 t5 t6 t7 al rc, IsTup h a [Value.str S.name t1, .str S.path t2, .str S.org t3, .str S.acc t4, .str S.key t5, .ref al, .str S.rel t6, .str S.st t7, .bool false, .ref rc].toArray ∧ Alts h al S.alts ∧ IsTup h rc #[]
theorem told_c {w : World} {h : Heap} {sp sd : Addr} {S : Spec} (G : G1 w h) (P : SpecAt h sp sd S) : Calls w 1 85 [.ref sp] [] h (fun v h' => ∃ a, v = .ref a ∧ Told h' a S) := by
  refine Calls.mk (fs_FileSpec_told w _) G nil_mem fun A s g tg hz L E ok B x0 => cutK fun K hK => ?_
  have P₁ := P.kp x0
  obtain ⟨t1, t2, t3, t4, t5, t6, t7, al, rc, I, hal, hrc⟩ := id P₁
  have hspL : sp ≠ L := Nat.ne_of_lt (B.L0 ▸ P.lt.1)
  have hsdL : sd ≠ L := Nat.ne_of_lt (B.L0 ▸ P.lt.2.2)
  refine wpAny_execs_cons (as_name (wpAny_Tuple (args_cons (a_ B (as_FileSpec_key w) I (args_cons (a_ B (as_FileSpec_alternates w) I (args_cons (a_ B (as_FileSpec_relative_key w) I (args_cons (a_ B (as_FileSpec_status w) I (args_nil ⟨szl rfl, ?_⟩)))))))))))
  generalize ho : ({ cls := .type "tuple", data := .seq [Value.str S.key t5, .ref al, .str S.rel t6, .str S.st t7].toArray } : Obj) = o1
  have B₁ := B.push o1
  have T₁ : IsTup (g.push o1) g.objs.size [Value.str S.key t5, .ref al, .str S.rel t6, .str S.st t7].toArray := ⟨o1, Heap.get?_push_size _ (by rw [← ho]; rfl), by rw [← ho], 0, by rw [← ho]⟩
  have x1 : Ext [] g (g.push o1) := Ext.push _ _
  refine s_ B₁ fun h₂ tk₂ B₂ x2 => ?_
  have I₂ := (I.keeps x1.keeps).ext x2 (nin1 hspL) (nin1 hsdL)
  have hd1 : ∀ y ∈ [L], isDict (g.push o1) y := one_dict B₁.isDict
  have T₂ := tup_ext T₁ x2 hd1
  have A₂ := (hal.ext x1 fun _ m => nomatch m).ext x2 hd1
  have C₂ := tup_ext (tup_ext hrc x1 fun _ m => nomatch m) x2 hd1
  refine wpAny_execs_cons (wpAny_Return_some (wpAny_BinOp (wpAny_BinOp (wpAny_Tuple (args_cons (a_ B₂ (as_FileSpec_name w) I₂ (args_cons (a_ B₂ (as_FileSpec_path w) I₂ (args_cons (a_ B₂ (as_FileSpec_organization w) I₂ (args_cons (a_ B₂ (as_FileSpec_access w) I₂ (args_nil ⟨szl rfl, ?_⟩)))))))))))))
  generalize ho2 : ({ cls := .type "tuple", data := .seq [Value.str S.name t1, .str S.path t2, .str S.org t3, .str S.acc t4].toArray } : Obj) = o2
  have B₃ := B₂.push o2
  have x3 : Ext [] h₂ (h₂.push o2) := Ext.push _ _
  have T₃ : IsTup (h₂.push o2) h₂.objs.size [Value.str S.name t1, .str S.path t2, .str S.org t3, .str S.acc t4].toArray := ⟨o2, Heap.get?_push_size _ (by rw [← ho2]; rfl), by rw [← ho2], 0, by rw [← ho2]⟩
  refine n_ B₃ (addt_ B₃ T₃ (tup_ext T₂ x3 fun _ m => nomatch m) (fun a h₄ tk₄ B₄ x4 T₄ => ?_) (szl rfl))
  have hd3 : ∀ y ∈ [L], isDict (h₂.push o2) y := one_dict B₃.isDict
  have I₄ := (I₂.keeps x3.keeps).ext x4 (nin1 hspL) (nin1 hsdL)
  have A₄ := (A₂.ext x3 fun _ m => nomatch m).ext x4 hd3
  have C₄ := tup_ext (tup_ext C₂ x3 fun _ m => nomatch m) x4 hd3
  refine wpAny_Tuple (args_cons (a_ B₄ (as_FileSpec_is_sort w) I₄ (args_cons (Call_ (b_ B₄ (gn_tuple w) (PyProof.Rows.callWith_type1 (args_cons (a_ B₄ (as_FileSpec_records w) I₄ (args_nil (call_tuple_tup (items := #[]) C₄ (args_nil ⟨szl rfl, ?_⟩)))))))))))
  generalize ho4 : ({ cls := .type "tuple", data := .seq [Value.bool false, .ref rc].toArray } : Obj) = o4
  have B₅ := B₄.push o4
  have x5 : Ext [] h₄ (h₄.push o4) := Ext.push _ _
  have T₅ : IsTup (h₄.push o4) h₄.objs.size [Value.bool false, .ref rc].toArray := ⟨o4, Heap.get?_push_size _ (by rw [← ho4]; rfl), by rw [← ho4], 0, by rw [← ho4]⟩
  refine addt_ B₅ (tup_ext T₄ x5 fun _ m => nomatch m) T₅ (fun b h₆ tk₆ B₆ x6 T₆ => ?_) (szl rfl)
  have hd5 : ∀ y ∈ [L], isDict (h₄.push o4) y := one_dict B₅.isDict
  refine hK _ _ ⟨B₆.x, ⟨b, rfl, t1, t2, t3, t4, t5, t6, t7, al, rc, T₆, (A₄.ext x5 fun _ m => nomatch m).ext x6 hd5, tup_ext (tup_ext C₄ x5 fun _ m => nomatch m) x6 hd5⟩, by walk_at "SM"⟩
noncomputable def frs (l : List Env) : List Addr := l.filterMap (·.frame)
/-- the frames there are as they were, but for their slots -/
noncomputable def SlK (fr : List Addr) (h h' : Heap) : Prop := ∀ b ∈ fr, ∀ o, h.get? b = some o → ∃ sl, h'.get? b = some { o with slots := sl }
theorem SlK.trans {fr : List Addr} {h h' h'' : Heap} (x : SlK fr h h') (y : SlK fr h' h'') : SlK fr h h'' := fun b m o e => let ⟨_, e1⟩ := x b m o e; let ⟨sl, e2⟩ := y b m _ e1; ⟨sl, e2⟩
theorem SlK.sub {fr fr' : List Addr} {h h' : Heap} (x : SlK fr h h') (k : ∀ b ∈ fr', b ∈ fr) : SlK fr' h h' := fun b m => x b (k b m)
theorem SlK.ext {fr D : List Addr} {h h' : Heap} (x : Ext D h h') (k : ∀ b ∈ fr, b ∉ D) : SlK fr h h' := fun b m o e => ⟨o.slots, x b o e (k b m)⟩
noncomputable abbrev Bs (h : Heap) (D : List Addr) (outer : List Env) : Heap := hideAll h (D ++ frs outer)
structure Stk (A : Around) (outer : List Env) (D : List Addr) (h : Heap) : Prop where
  st : A.frames = some outer
  fr : h.FunFrames (Bs h D outer) outer
  off : ∀ b ∈ frs outer, b ∉ D ∧ 409 ≤ b
noncomputable abbrev GF : Value := .ref 60
noncomputable def Errs (D : List Addr) (outer : List Env) (h h' : Heap) (e : Addr) : Prop := (∃ a0, Heap.FlyingW (Bs h D outer) outer e GF a0 h') ∧ SlK (frs outer) h h'
/-- e is raised in the frame env -/
structure Hot (D : List Addr) (outer : List Env) (h0 : Heap) (env : Env) (e : Addr) (h' : Heap) : Prop where
  stays : (Bs h0 D outer).StaysIn h'
  new : (Bs h0 D outer).get? e = none
  fr : h'.FunFrames (Bs h0 D outer) (env :: outer)
  tr : ∃ a0 L, env.frame = some L ∧ ((∃ oe vs, h'.get? e = some oe ∧ oe.cls = GF ∧ oe.data = .fields vs ∧ vs[0]? = some a0 ∧ vs[1]? = some .none) ∨ Heap.TracedAtW h' (Bs h0 D outer) e GF a0 .none ∨ Heap.TracedAtW h' (Bs h0 D outer) e GF a0 (rawInt L))
  sl : SlK (frs outer) h0 h'
/-- the same, noted in the frame -/
structure Held (D : List Addr) (outer : List Env) (h0 : Heap) (env : Env) (e : Addr) (h' : Heap) : Prop where
  stays : (Bs h0 D outer).StaysIn h'
  new : (Bs h0 D outer).get? e = none
  fr : h'.FunFrames (Bs h0 D outer) (env :: outer)
  tr : ∃ a0 L, env.frame = some L ∧ Heap.TracedAtW h' (Bs h0 D outer) e GF a0 (rawInt L)
  sl : SlK (frs outer) h0 h'
theorem Held.hot {D outer h0 env e h'} (H : Held D outer h0 env e h') : Hot D outer h0 env e h' := ⟨H.stays, H.new, H.fr, let ⟨a, L, e, t⟩ := H.tr; ⟨a, L, e, .inr (.inr t)⟩, H.sl⟩
theorem frs_obj {h h' base : Heap} {l : List Env} (F : h.FunFrames base l) (k : ∀ b o, h.get? b = some o → (∀ vs, o.data ≠ .fields vs) → ∃ sl, h'.get? b = some { o with slots := sl }) : SlK (frs l) h h' := fun b m o e => by
  obtain ⟨_, o', e', n⟩ := F.mem m
  rw [e] at e'; cases e'
  exact k b o e n
theorem frs_cons {env : Env} {outer : List Env} {h base : Heap} (F : h.FunFrames base (env :: outer)) : ∀ b ∈ frs outer, b ∈ frs (env :: outer) := fun b m => by
  obtain ⟨_, ⟨L, o, hf, _⟩, _⟩ := F
  show b ∈ (env :: outer).filterMap (·.frame)
  rw [List.filterMap_cons, hf]; exact .tail _ m
section
variable {w : World} {A : Around} {E : Value → Shared → Prop} {s : Shared} {D : List Addr} {outer : List Env} {h0 : Heap} {env : Env} {e : Addr}
theorem hot_noted {Q : Unit → Shared → Prop} (st : A.frames = some (env :: outer)) (H : Hot D outer h0 env e s.heap) (h : ∀ h', Held D outer h0 env e h' → Q () { s with heap := h' }) : wpAny (Mw w) A (noteFrame (.ref e) env) Q E s := by
  obtain ⟨h1, h2, h3, ⟨a0, L, hf, tr⟩, h5⟩ := H
  have fin : ∀ h', Heap.NotedW (Bs h0 D outer) (env :: outer) e GF a0 (rawInt L) s.heap h' → Q () { s with heap := h' } := fun h' ⟨x1, x2, x3, x4⟩ =>
    h h' ⟨x1, h2, x2, ⟨a0, L, hf, x3⟩, h5.trans ((frs_obj h3 x4).sub (frs_cons h3))⟩
  rcases tr with ⟨oe, vs, he, hc, hd, h0', h1'⟩ | tr | tr
  · unfold noteFrame
    simp only [hf]
    refine wpAny_bind (wpAny_field he hd h1' ?_)
    rw [if_neg (by decide)]
    exact wpAny_entryW st h3 hf he h1 h2 hd (Array.getElem?_eq_some_iff.mp h1').1 h0' (hc ▸ fin)
  · exact wpAny_noteFrame_onW st h3 hf tr h1 h2 fin
  · exact wpAny_noteFrame_againW hf tr (h s.heap ⟨h1, h2, h3, ⟨a0, L, hf, tr⟩, h5⟩)
theorem hot_leave {R : Result → Shared → Prop} (st : A.frames = some (env :: outer)) (H : Hot D outer h0 env e s.heap) (h : ∀ h', Errs D outer h0 h' e → R (.error (.ref e)) { s with heap := h' }) :
    wpAny (Mw w) A (leaving env (.ref e)) (fun _ s'' => R (.error (.ref e)) s'') E s := by
  unfold leaving
  refine wpAny_bind (hot_noted st H fun h' H' => ?_)
  obtain ⟨h1, h2, h3, ⟨a0, L, hf, tr⟩, h5⟩ := H'
  refine wpAny_setFlight_noneW h1 h3 tr fun h'' k1 k2 k3 k4 => ?_
  obtain ⟨_, _, k2'⟩ := k2
  exact h h'' ⟨⟨a0, k1, h2, k2', k3⟩, h5.trans ((frs_obj h3 fun b o hb hn => ⟨o.slots, k4 b o hb hn⟩).sub (frs_cons h3))⟩
theorem hot_back (H : Held D outer h0 env e s.heap) (h : ∀ h', Held D outer h0 env e h' → E (.ref e) { s with heap := h' }) : cameBackBy (Mw w) A env E (.ref e) s := by
  obtain ⟨h1, h2, h3, ⟨a0, L, hf, oe, vs, T, oT, ts, he, hcls, hd, h1', hnT, hTe, hT, hdT, h3'⟩, h5⟩ := H
  unfold cameBackBy
  refine wpAny_bind (wpAny_field he hd h1' ?_)
  rw [if_neg (by simp)]
  have other : ∀ b, b ≠ T → (s.heap.update T (Obj.mapFields (·.setIfInBounds 3 ((some L : Option Addr).elim Value.none fun f => rawInt f)))).get? b = s.heap.get? b := fun b hb => Heap.get?_update_other _ _ (Ne.symm hb)
  have noRecord : ∀ b o, s.heap.get? b = some o → (∀ vs, o.data ≠ .fields vs) → b ≠ T := fun b o hb hnf q => by
    rw [q, hT] at hb; injection hb with hb; subst hb; exact hnf ts hdT
  have hsz3 : 3 < ts.size := (Array.getElem?_eq_some_iff.mp h3').1
  unfold setFlight
  rw [hf]
  refine wpAny_bind (wpAny_field he hd h1' ?_)
  rw [if_pos (show (Value.ref T != Value.none) = true from by simp)]
  refine wpAny_setField hT hdT hsz3 (h _ ⟨fun b o hbo => (other b fun q => by rw [q, hnT] at hbo; cases hbo).trans (h1 b o hbo), h2, h3.of_keeps fun b o hb hnf => ⟨o, (other b (noRecord b o hb hnf)).trans hb, rfl⟩, ⟨a0, L, hf, ?_⟩, ?_⟩)
  · exact ⟨oe, vs, T, _, _, (other e (Ne.symm hTe)).trans he, hcls, hd, h1', hnT, hTe, Heap.get?_update_self _ hT (Obj.isFreed_of_fields (Obj.data_mapFields hdT _)), Obj.data_mapFields hdT _, by simp [hsz3]⟩
  · exact h5.trans ((frs_obj h3 fun b o hb hn => ⟨o.slots, (other b (noRecord b o hb hn)).trans hb⟩).sub (frs_cons h3))
end
/-- where an exception of this frame goes -/
structure Goes (w : World) (A : Around) (D : List Addr) (outer : List Env) (h0 : Heap) (env : Env) (s : Shared) (E : Value → Shared → Prop) : Prop where
  st : A.frames = some (env :: outer)
  fr : h0.FunFrames (Bs h0 D outer) outer
  off : ∀ b ∈ frs outer, b ∉ D ∧ 409 ≤ b
  go : ∀ e h' tk', Hot D outer h0 env e h' → E (.ref e) (St s h' tk')
theorem Goes.noted {w A D outer h0 env s E} (g : Goes w A D outer h0 env s E) : Goes w A D outer h0 env s (notedBy (Mw w) A env fun e s' => cameBackBy (Mw w) A env E e s') :=
  ⟨g.st, g.fr, g.off, fun e h' tk' H => hot_noted (s := St s h' tk') g.st H fun h₁ H₁ => hot_back H₁ fun h₂ H₂ => g.go e h₂ tk' H₂.hot⟩
/-- a call of the text's def f: it ends and gives a value, or, only if bad, raises a GrammarFault -/
noncomputable def CallsB (w : World) (n : Nat) (f : Addr) (args : List Value) (D : List Addr) (h : Heap) (post : Value → Heap → Prop) (bad : Prop) : Prop :=
  ∀ (A : Around) (s : Shared) (R : Result → Shared → Prop), s.heap = h → Ok A n →
    (∀ v h' tk', Ext D h h' → post v h' → R (.ok (.ret v)) { s with heap := h', toks := tk' }) →
    (bad → ∃ outer, Stk A outer D h ∧ ∀ e h' tk', Errs D outer h h' e → R (.error (.ref e)) { s with heap := h', toks := tk' }) → codeAny (Mw w) A (.call (.ref f) ⟨args, []⟩) R s
theorem frs_mem {outer : List Env} {b : Addr} : b ∈ frs outer ↔ ∃ env ∈ outer, env.frame = some b := List.mem_filterMap
theorem CallsB.mk {w : World} {n : Nat} {f : Addr} {qual : Str} {body : List Stmt} {scope : Scope} {cdv : Value} {args : List Value} {binds ls : List (Str × Value)} {D : List Addr} {h : Heap} {post : Value → Heap → Prop} {bad : Prop}
    (S : FnS w f qual body scope cdv args binds) (G : G1 w h) (hD : ∀ d ∈ D, 409 ≤ d ∧ d < h.objs.size)
    (H : ∀ (A : Around) (s : Shared) (g : Heap) (tg : Tok) (hz : Heap) (L : Addr) (E : Value → Shared → Prop), Ok A n → Bd w D s h L hz g ls → Ext [] h g →
      (bad → ∃ outer, Goes w A D outer h (envOf qual scope L f cdv) s E) →
      wpAny (Mw w) A (execs body (envOf qual scope L f cdv)) (Post D h s post) E (St s g tg)) (hl : ls = binds.reverse := by rfl) : CallsB w (n + 1) f args D h post bad := by
  intro A s R hs ok kk kb
  subst hs hl
  refine enter D S G (fun d m => (hD d m).1) (by have := ok.dp; omega) fun hz L h₁ ez Gz F x eL hn => ?_
  refine wpAny_mono (H _ s h₁ (s.toks + binds.length) hz L _ (ok.deeper _) ⟨Gz, F, x.nil, eL, fun d m => ⟨hn d m, eL ▸ (hD d m).2⟩, ez⟩ x fun hb => ?_) (fun fl s' q => ?_) fun _ _ x => x
  · obtain ⟨outer, K, kb⟩ := kb hb
    have st := Around.frames_deeper (env := envOf qual scope L f cdv) K.st
    exact ⟨outer, st, K.fr, K.off, fun e h' tk' Hh => hot_leave (s := St s h' tk') st Hh fun h'' x => kb e h'' tk' x⟩
  · obtain ⟨a, b, c⟩ := q
    rw [c.eq]
    exact kk _ _ _ a b
theorem Calls.b {w n f args D h post bad} (C : Calls w n f args D h post) : CallsB w n f args D h post bad := fun A s R hs ok kk _ => C A s R hs ok kk
theorem CallsB.ok {w n f args D h post} (C : CallsB w n f args D h post False) : Calls w n f args D h post := fun A s R hs ok kk => C A s R hs ok kk fun b => b.elim
/-- a GrammarFault that has not been raised -/
noncomputable def Ge (h : Heap) (e : Addr) : Prop := ∃ oe t, h.get? e = some oe ∧ oe.cls = GF ∧ oe.data = .fields #[.ref t, .none, .none, .none, .bool false, .none]
theorem Gf.ge {h e} (g : Gf h e) : Ge h e := let ⟨t, _, _, ⟨o, a, b, c, _⟩, _⟩ := g; ⟨o, t, a, b, c⟩
theorem Ge.ext {h h' : Heap} {D e} (g : Ge h e) (x : Ext D h h') (hD : ∀ d ∈ D, isDict h d) : Ge h' e := by
  obtain ⟨o, t, a, b, c⟩ := g
  refine ⟨o, t, x _ _ a fun m => ?_, b, c⟩
  obtain ⟨o', es, n', e', q⟩ := hD e m
  rw [a] at e'; cases e'
  rw [c] at q; cases q
theorem Ge.extL {h h' : Heap} {l e : Addr} {its : Array Value} (g : Ge h e) (x : Ext [l] h h') (P : h.PlainList l its) : Ge h' e := by
  obtain ⟨o, t, a, b, c⟩ := g
  refine ⟨o, t, x _ _ a (nin1 ?_), b, c⟩
  rintro rfl
  obtain ⟨n, e'⟩ := P
  rw [a] at e'; cases e'
  cases c
/-- the body's frame, and a GrammarFault at hand -/
theorem hot_of {w : World} {D : List Addr} {s : Shared} {h0 hz h : Heap} {L f e : Addr} {ls : List (Str × Value)} {qn : Str} {sc : Scope} {cd : Value} {outer : List Env} (B : Bd w D s h0 L hz h ls) (he : h0.objs.size ≤ e) (g : Ge h e)
    (fr : h0.FunFrames (Bs h0 D outer) outer) (off : ∀ b ∈ frs outer, b ∉ D ∧ 409 ≤ b) (hk : sc.kind = .function) : Hot D outer h0 (envOf qn sc L f cd) e h := by
  have new : ∀ b, h0.objs.size ≤ b → (Bs h0 D outer).get? b = none := fun b hb => by
    cases q : (Bs h0 D outer).get? b with
    | none => rfl
    | some o => exact absurd (Heap.lt_size (of_hideAll _ q)) (Nat.not_lt.mpr hb)
  have keep : ∀ b o, (Bs h0 D outer).get? b = some o → h.get? b = some o := fun b o q => B.x b o (of_hideAll _ q) fun m => by
    rw [hideAll_none _ (List.mem_append_left _ m)] at q; cases q
  have sl : SlK (frs outer) h0 h := SlK.ext B.x fun b m => (off b m).1
  refine ⟨keep, new e he, ⟨by show sc.kind ≠ .module; rw [hk]; decide, ?_, ?_⟩, ?_, sl⟩
  · obtain ⟨o, es, ep, ho, hd, _⟩ := B.F.ns
    exact ⟨L, o, rfl, new L (Nat.le_of_eq B.L0.symm), ho, fun vs => by rw [hd]; intro q; cases q⟩
  · have : ∀ l : List Env, h0.FunFrames (Bs h0 D outer) l → (∀ b ∈ frs l, b ∈ frs outer) → h.FunFrames (Bs h0 D outer) l := by
      intro l
      induction l with
      | nil => intro _ _; trivial
      | cons env r ih =>
        intro F sub
        have hs := frs_cons F
        obtain ⟨a, ⟨L', o, hf, hn, ho, hd⟩, F'⟩ := F
        obtain ⟨sl', e1⟩ := sl L' (sub L' (frs_mem.mpr ⟨env, .head _, hf⟩)) o ho
        exact ⟨a, ⟨L', _, hf, hn, e1, hd⟩, ih F' fun b m => sub b (hs b m)⟩
    exact this outer fr fun _ m => m
  · obtain ⟨oe, t, a, b, c⟩ := g
    exact ⟨.ref t, L, rfl, .inl ⟨oe, _, a, b, c, rfl, rfl⟩⟩
theorem raise_stmt {w : World} {A : Around} {E : Value → Shared → Prop} {s : Shared} {env : Env} {x : PySem.Expr} {pos : Pos} {Q : Flow → Shared → Prop} (hh : A.handled = none)
    (h : wpAny (Mw w) A (eval x env) (fun v s₁ => ∃ e, v = .ref e ∧ (Kw w).In s₁.heap ∧ Ge s₁.heap e ∧ E (.ref e) s₁) E s) : wpAny (Mw w) A (exec (.Raise (some x) none pos) env) Q E s := by
  have go : ∀ m, wpAny (Mw w) A m (fun v s₁ => ∃ e, v = .ref e ∧ (Kw w).In s₁.heap ∧ Ge s₁.heap e ∧ E (.ref e) s₁) E s → wpAny (Mw w) A (raiseStmt env (some m) none) Q E s := by
    intro m h
    have hcB : (Value.ref 60 :: bmG).contains (.type "BaseException") = true := by decide +kernel
    unfold raiseStmt
    refine wpAny_bind (wpAny_mono h (fun v s₁ h₁ => ?_) fun _ _ x => x)
    obtain ⟨e, rfl, X, ⟨⟨oc, od, odt, osl⟩, t, he, hc, hdt⟩, hE⟩ := h₁
    dsimp only at hc hdt
    subst hc hdt
    have hC := X _ _ (show (K0 w.params).lookup 60 = some (o_60 w.params) by kernel_rfl)
    obtain ⟨hp, g, d, tk, os⟩ := s₁
    repeat (first | with_reducible refine wpAny_loadPart_at he ?_ | with_reducible refine wpAny_loadPart_at hC ?_ | (with_reducible refine wpAny_isSubtype_exc hC ?_; rw [hcB]) | wp_step)
    exact wpAny_raiseNew_none hh hE
  rw [arm_exec_Raise]
  exact wpAny_bind (wpAny_standAt (go _ (wpAny_bind (wpAny_mono h (fun v s₁ h₁ => wpAny_bind (wpAny_standAt (wpAny_pure h₁))) fun _ _ x => x))))
/-- raise: the GrammarFault at hand -/
theorem raise_ {w : World} {A : Around} {E : Value → Shared → Prop} {s σ : Shared} {D : List Addr} {h0 : Heap} {L f : Addr} {qn : Str} {sc : Scope} {cd : Value} {outer : List Env} {x : PySem.Expr} {pos : Pos} {Q : Flow → Shared → Prop}
    (go : Goes w A D outer h0 (envOf qn sc L f cd) σ E)
    (h : wpAny (Mw w) A (eval x (envOf qn sc L f cd)) (fun v s₁ => ∃ e hz ls, v = .ref e ∧ Bd w D σ h0 L hz s₁.heap ls ∧ h0.objs.size ≤ e ∧ Ge s₁.heap e ∧ Same σ s₁) E s)
    (hh : A.handled = none := by exact Ok.hd (by assumption)) (hk : sc.kind = .function := by rfl) : wpAny (Mw w) A (exec (.Raise (some x) none pos) (envOf qn sc L f cd)) Q E s := by
  refine raise_stmt hh (wpAny_mono h (fun v s₁ q => ?_) fun _ _ x => x)
  obtain ⟨e, hz, ls, rfl, B, he, g, S⟩ := q
  refine ⟨e, rfl, B.G1.X, g, ?_⟩
  rw [S.is]
  exact go.go e _ _ (hot_of B he g go.fr go.off hk)
theorem Bd.frames {w : World} {D : List Addr} {s : Shared} {h0 hz h : Heap} {L f : Addr} {ls : List (Str × Value)} {qn : Str} {sc : Scope} {cd : Value} {outer : List Env} (B : Bd w D s h0 L hz h ls)
    (fr : h0.FunFrames (Bs h0 D outer) outer) (off : ∀ b ∈ frs outer, b ∉ D ∧ 409 ≤ b) (hk : sc.kind = .function) : h.FunFrames (Bs h0 D outer) (envOf qn sc L f cd :: outer) := by
  have new : (Bs h0 D outer).get? L = none := by
    cases q : (Bs h0 D outer).get? L with
    | none => rfl
    | some o => exact absurd (Heap.lt_size (of_hideAll _ q)) (Nat.not_lt.mpr (Nat.le_of_eq B.L0.symm))
  have sl : SlK (frs outer) h0 h := SlK.ext B.x fun b m => (off b m).1
  refine ⟨by show sc.kind ≠ .module; rw [hk]; decide, ?_, ?_⟩
  · obtain ⟨o, es, ep, ho, hd, _⟩ := B.F.ns
    exact ⟨L, o, rfl, new, ho, fun vs => by rw [hd]; intro q; cases q⟩
  · have : ∀ l : List Env, h0.FunFrames (Bs h0 D outer) l → (∀ b ∈ frs l, b ∈ frs outer) → h.FunFrames (Bs h0 D outer) l := by
      intro l
      induction l with
      | nil => intro _ _; trivial
      | cons env r ih =>
        intro F sub
        have hs := frs_cons F
        obtain ⟨a, ⟨L', o, hf, hn, ho, hd⟩, F'⟩ := F
        obtain ⟨sl', e1⟩ := sl L' (sub L' (frs_mem.mpr ⟨env, .head _, hf⟩)) o ho
        exact ⟨a, ⟨L', _, hf, hn, e1, hd⟩, ih F' fun b m => sub b (hs b m)⟩
    exact this outer fr fun _ m => m
theorem Bd.stays {w : World} {D D' : List Addr} {s : Shared} {h0 hz h : Heap} {L : Addr} {ls : List (Str × Value)} {l outer : List Env} (B : Bd w D s h0 L hz h ls) (hs : ∀ d ∈ D', d ∈ D ∨ L < d) (hl : ∀ b ∈ frs l, b = L ∨ b ∈ frs outer) :
    (Bs h0 D outer).StaysIn (Bs h D' l) := fun b o q => by
  have e := of_hideAll _ q
  have n1 : b ∉ D := fun m => by rw [hideAll_none _ (List.mem_append_left _ m)] at q; cases q
  have n2 : b ∉ frs outer := fun m => by rw [hideAll_none _ (List.mem_append_right _ m)] at q; cases q
  have lt : b < L := B.L0 ▸ Heap.lt_size e
  refine hideAll_get _ (B.x b o e n1) fun m => ?_
  rcases List.mem_append.mp m with m | m
  · rcases hs b m with m | m
    · exact n1 m
    · exact Nat.lt_asymm lt m
  · rcases hl b m with m | m
    · exact Nat.ne_of_lt lt m
    · exact n2 m
theorem Bd.useB {w : World} {D D' : List Addr} {h0 hz : Heap} {L f g : Addr} {ls : List (Str × Value)} {qn : Str} {sc : Scope} {cd : Value} {n : Nat} {args : List Value} {post : Value → Heap → Prop} {bad : Prop} {A : Around} {s σ : Shared} {Q E : Value → Shared → Prop}
    (B : Bd w D σ h0 L hz s.heap ls) (C : CallsB w n g args D' s.heap post bad)
    (h : ∀ v h' tk', Bd w D σ h0 L hz h' ls → Ext D' s.heap h' → post v h' → Q v (St σ h' tk'))
    (he : bad → ∃ outer, Goes w A D outer h0 (envOf qn sc L f cd) σ E)
    (S : Same σ s := by walk_at "SM") (ok : Ok A n := by walk_at "OK") (hs : ∀ d ∈ D', d ∈ D ∨ L < d := by walk_at "SUB") (hk : sc.kind = .function := by rfl) : wpAny (Mw w) A (call (.ref g) args) Q E s := by
  refine wpAny_call (C A s _ rfl ok (fun v h' tk' x p => S.st h' tk' ▸ h v h' tk' (B.ext x hs) x p) fun hb => ?_)
  obtain ⟨outer, go⟩ := he hb
  have F := B.frames (f := f) (qn := qn) (cd := cd) go.fr go.off hk
  have hfr : frs (envOf qn sc L f cd :: outer) = L :: frs outer := rfl
  refine ⟨envOf qn sc L f cd :: outer, ⟨go.st, ?_, fun b m => ?_⟩, fun e h' tk' q => ?_⟩
  · exact funFrames_hide F fun env m a e => List.mem_append_right _ (frs_mem.mpr ⟨env, m, e⟩)
  · rw [hfr] at m
    rcases List.mem_cons.mp m with rfl | m
    · refine ⟨fun m => ?_, ?_⟩
      · rcases hs _ m with m | m
        · exact Nat.lt_irrefl _ (B.dn _ m).2
        · exact Nat.lt_irrefl _ m
      · have := B.G.size
        rw [B.hz, hideAll_size, ← B.L0] at this
        exact this
    · refine ⟨fun m' => ?_, (go.off b m).2⟩
      rcases hs b m' with m' | m'
      · exact (go.off b m).1 m'
      · obtain ⟨_, o, e, _⟩ := go.fr.mem (show b ∈ outer.filterMap (·.frame) from m)
        have := Heap.lt_size e
        rw [← B.L0] at this
        exact Nat.lt_asymm this m'
  · obtain ⟨⟨a0, fl⟩, sl⟩ := q
    have k : (Bs h0 D outer).StaysIn (Bs s.heap D' (envOf qn sc L f cd :: outer)) := B.stays hs fun b m => by rw [hfr] at m; exact List.mem_cons.mp m
    obtain ⟨f1, f2, f3, f4⟩ := flyingW_base k fl
    have := go.go e h' tk' ⟨f1, f2, f3, ⟨a0, L, rfl, .inr (.inl f4)⟩, (SlK.ext B.x fun b m => (go.off b m).1).trans (sl.sub fun b m => hfr ▸ List.mem_cons_of_mem _ m)⟩
    rw [← S.st h' tk'] at this
    exact this
theorem whileE_ {w : World} {A : Around} {s σ : Shared} {R : Result → Shared → Prop} {env : Env} {test : PySem.Expr} {body : List Stmt} (P : Nat → Heap → Prop) (n : Nat) (h0 : P n s.heap)
    (turn : ∀ n h t, P n h → wpAny (Mw w) A (isTrue test env (eval test env)) (fun b s₂ => if b then wpAny (Mw w) A (execs body env) (fun f s₃ => match f with
          | .next | .cont => Same σ s₃ ∧ ∃ m, m < n ∧ P m s₃.heap
          | .brk => R (.ok .next) s₃
          | .ret v => R (.ok (.ret v)) s₃) (notedBy (Mw w) A env fun e s' => R (.error e) s') s₂ else R (.ok .next) s₂) (notedBy (Mw w) A env fun e s' => R (.error e) s') (St σ h t)) (S : Same σ s := by walk_at "SM") : codeAny (Mw w) A (.whileLoop test body [] env) R s := by
  refine codeAny_whileLoop (fun n s => Same σ s ∧ P n s.heap) (fun n s hI => ?_) n ⟨S, h0⟩
  obtain ⟨S, p⟩ := hI
  have := turn n s.heap s.toks p
  rw [← S.is] at this
  refine wpAny_mono this (fun b s₂ q => ?_) fun _ _ x => x
  cases b with
  | false => exact wpAny_execs_nil q
  | true =>
    refine wpAny_mono q (fun f s₃ q => ?_) fun _ _ x => x
    cases f with
    | next => exact let ⟨S, m, hm, p⟩ := q; ⟨m, hm, S, p⟩
    | cont => exact let ⟨S, m, hm, p⟩ := q; ⟨m, hm, S, p⟩
    | brk => exact q
    | ret v => exact q
theorem read_alternate_b {w : World} {h : Heap} {r d tl sp sd : Addr} {ts : List (Addr × Tk)} {rem : List Tk} {S : Spec} {q : Str × List Tk} (G : G1 w h) (R : Rd h r d tl ts rem) (P : SpecAt h sp sd S) (T : Toks (hideAll h [d, sd]) tl ts) (hne : 0 < ts.length)
    (hq : nameP (after ["IS"] (after ["KEY"] (after ["RECORD"] rem))) = some q) (hsz : S.alts.length ≤ 1000) :
    CallsB w 6 118 [.ref r, .ref sp] [d, sd] h (fun _ h' => (S.alts.map (·.1)).any (· == q.1) = false ∧ Rd h' r d tl ts (dupP q.2).2 ∧ SpecAt h' sp sd { S with alts := S.alts ++ [(q.1, (dupP q.2).1)] }) ((S.alts.map (·.1)).any (· == q.1) = true) := by
  refine CallsB.mk (fs_read_alternate w _ _) G (hD2 P R) fun A s g tg hz L E ok B x0 hE => cutK fun K hK => ?_
  have T : Toks hz tl ts := B.hz ▸ T
  have hL := nL P R B.L0
  have R₁ := R.keeps x0.keeps
  have P₁ := P.kp x0
  refine wpAny_execs_cons (wpAny_Expr_any (rskip_ ["RECORD"] B R₁ T fun h₂ tk₂ B₂ x2 R₂ => ?_))
  have P₂ := P₁.sk R₁ x2
  refine wpAny_execs_cons (wpAny_Expr_any (rskip_ ["KEY"] B₂ R₂ T fun h₃ tk₃ B₃ x3 R₃ => ?_))
  have P₃ := P₂.sk R₂ x3
  refine wpAny_execs_cons (wpAny_Expr_any (rskip_ ["IS"] B₃ R₃ T fun h₄ tk₄ B₄ x4 R₄ => ?_))
  have P₄ := P₃.sk R₃ x4
  refine wpAny_execs_cons (as_name (rname_ B₄ R₄ T hq fun t h₅ tk₅ B₅ x5 R₅ => s_ B₅ fun h₆ tk₆ B₆ x6 => ?_))
  have P₅ := P₄.sk R₄ x5
  have R₆ := R₅.ext' x6 (one_dict B₅.isDict) (nin1 hL.2.2)
  have P₆ := P₅.ext x6 (one_dict B₅.isDict) (nin1 hL.1)
  refine wpAny_execs_cons (as_name (mono_q (fun v s' => ∃ h' tk', s' = St s h' tk' ∧ v = .bool (dupP q.2).1 ∧ Bd w [d, sd] s h L hz h' [("name", .str q.1 t), ("spec", .ref sp), ("reader", .ref r)] ∧ Rd h' r d tl ts (dupP q.2).2 ∧ SpecAt h' sp sd S) ?_ ?_))
  · refine BoolOp_or (rskip_ ["WITH", "DUPLICATES"] B₆ R₆ T fun h₇ tk₇ B₇ x7 R₇ => wpAny_truthy_bool ?_)
    have P₇ := P₆.sk R₆ x7
    unfold dupP
    cases hw : heads ["WITH", "DUPLICATES"] q.2 with
    | true => exact ⟨h₇, tk₇, rfl, rfl, B₇, R₇, P₇⟩
    | false =>
      rw [after_f hw] at R₇
      refine BoolOp_one (rskip_ ["DUPLICATES"] B₇ R₇ T fun h₈ tk₈ B₈ x8 R₈ => ?_)
      exact ⟨h₈, tk₈, rfl, rfl, B₈, R₈, P₇.sk R₇ x8⟩
  · rintro v s' ⟨h₇, tk₇, rfl, rfl, B₇, R₇, P₇⟩
    refine s_ B₇ fun h₈ tk₈ B₈ x8 => ?_
    have R₈ := R₇.ext' x8 (one_dict B₇.isDict) (nin1 hL.2.2)
    have P₈ := P₇.ext x8 (one_dict B₇.isDict) (nin1 hL.1)
    obtain ⟨t1, t2, t3, t4, t5, t6, t7, al, rc, I, ⟨vs, hal, hps⟩, hrc⟩ := id P₈
    refine wpAny_execs_cons (wpAny_If (wpAny_isTrue_Compare1 ?_))
    refine n_ B₈ ?_
    refine wpAny_ListComp_free (fun _ => true) (fun v y => ∃ a t, Pair h₈ v a ∧ y = .str a.1 t) (closureFor_none (by decide)) (by decide) rfl (by decide) rfl (a_ B₈ (as_FileSpec_alternates w) I (wpAny_pyIter_tuple hal ?_))
    have hal' : al < h₈.objs.size := hal.lt
    have hvl : vs.length ≤ 1000 := by rw [hps.length]; exact hsz
    refine ⟨_, _, _, _, _, _, rfl, Walks.tuple ok.hd h₈.objs.size al (Nat.ne_of_lt hal') vs.toArray, by rw [sizeLine_eq]; simp; omega, ⟨⟨_, Heap.get?_push_size _ rfl, rfl, rfl⟩, hal.push _⟩, ?_, ⟨?_, ?_⟩, ?_⟩
    · intro b hb
      rw [Heap.size_push]
      rcases List.mem_cons.mp hb with rfl | hb
      · exact Nat.lt_succ_self _
      · rcases List.mem_cons.mp hb with rfl | hb
        · exact Nat.lt_succ_of_lt hal'
        · cases hb
    · intro C i v s₃ m₃ E' hC hv hns hm hk htk
      exact wpAny_tests_nil ⟨rfl, s₃.heap, s₃.toks, rfl, fun _ _ e => e⟩
    · intro C i v s₃ m₃ E' hC hv _ hns hm hk htk
      obtain ⟨a, hp⟩ := pairs_get hps (v := v) (by
        rw [List.getElem?_toArray] at hv
        exact List.mem_of_getElem? hv)
      obtain ⟨pa, tt, rfl, hpt⟩ := id hp
      have hlt : pa < h₈.objs.size := hpt.lt
      have hpt3 : IsTup s₃.heap pa [Value.str a.1 tt, Value.bool a.2].toArray := by
        obtain ⟨o, ho, r⟩ := hpt
        exact ⟨o, hk _ _ (fun m => by
          rcases List.mem_cons.mp m with e | m
          · rw [e] at hlt; exact Nat.lt_irrefl _ hlt
          · cases m) (Heap.get?_push_of_some _ ho), r⟩
      refine Subscript_ (ldVarK hns hm (wpAny_Constant_int (item_tupleT hpt3 (by decide) (by decide) (j := 0) rfl rfl ?_ (by with_unfolding_all rfl))))
      exact ⟨⟨a, tt, hp, rfl⟩, _, _, rfl, fun _ _ e => e⟩
    · intro D' h₉ tk₉ ys vs' hD' hys hpl hvn hP hF hk
      have e := list_all (as := vs) hvn (by simp) hP
      subst e
      have hfl : vs'.filter (fun _ => true) = vs' := List.filter_eq_self.mpr fun _ _ => rfl
      rw [hfl] at hF
      have hst := pairs_names hps hF
      have x9 : Ext [] h₈ h₉ := fun b o e _ => hk b o (fun m => by
        rcases List.mem_cons.mp m with e' | m
        · rw [e'] at e; exact Nat.lt_irrefl _ (Heap.lt_size e)
        · cases m) (Heap.get?_push_of_some _ e)
      have B₉ := B₈.ext x9 nil_mem
      have R₉ := R₈.keeps x9.keeps
      have P₉ := P₈.kp x9
      refine in_list_strs (vs := ys.toList) (by simpa using hys) hst ?_
      refine wpAny_truthy_bool ?_
      cases hin : (S.alts.map (·.1)).any (· == q.1) with
      | true =>
      obtain ⟨outer, go⟩ := hE hin
      exact wpAny_execs_cons (raise_ go (rfault_ B₉ R₉ T hne fun pe h₃ tk₃ B₃ x3 hpe Gf3 => ⟨pe, _, _, rfl, B₃, Nat.le_trans (Nat.le_of_lt (B.L0 ▸ B₉.Llt)) hpe, Gf3.ge, by walk_at "SM"⟩))
      | false =>
      refine wpAny_execs_nil ?_
      have I₉ := I.keeps x9.keeps
      refine wpAny_execs_cons (plainObj_wpAny_Assign_Attribute (wpAny_BinOp (a_ B₉ (as_FileSpec_alternates w) I₉ ?_)))
      refine wpAny_Tuple (args_cons (wpAny_Tuple (args_cons (n_ B₉ (args_cons ?_)))))
      refine n_ B₉ (args_nil ⟨szl rfl, args_nil ⟨szl rfl, ?_⟩⟩)
      generalize hp1 : ({ cls := .type "tuple", data := .seq [Value.str q.1 t, .bool (dupP q.2).1].toArray } : Obj) = o1
      generalize hp2 : ({ cls := .type "tuple", data := .seq [Value.ref h₉.objs.size].toArray } : Obj) = o2
      have B₁ := (B₉.push o1).push o2
      have x1 : Ext [] h₉ ((h₉.push o1).push o2) := (Ext.push _ _).trans (Ext.push _ _)
      have T1 : IsTup ((h₉.push o1).push o2) h₉.objs.size #[Value.str q.1 t, .bool (dupP q.2).1] := ⟨o1, Heap.get?_push_of_some _ (Heap.get?_push_size _ (by rw [← hp1]; rfl)), by rw [← hp1], 0, by rw [← hp1]⟩
      have T2 : IsTup ((h₉.push o1).push o2) (h₉.push o1).objs.size [Value.ref h₉.objs.size].toArray := ⟨o2, Heap.get?_push_size _ (by rw [← hp2]; rfl), by rw [← hp2], 0, by rw [← hp2]⟩
      refine addt_ B₁ (tup_ext hal (x9.trans x1) fun _ m => nomatch m) T2 (fun a h' tk' B' x' T' => ?_) (by rw [sizeLine_eq]; simp; omega)
      have hdd : ∀ z ∈ [L], isDict ((h₉.push o1).push o2) z := one_dict B₁.isDict
      have R₁' := (R₉.keeps x1.keeps).ext' x' hdd (nin1 hL.2.2)
      have P₁' := (P₉.kp x1).ext x' hdd (nin1 hL.1)
      have A' : Alts h' a (S.alts ++ [(q.1, (dupP q.2).1)]) := by
        refine ⟨_, T', ?_⟩
        refine ((hps.ext (x9.trans x1) fun _ m => nomatch m).ext x' hdd).snoc ⟨_, t, rfl, ?_⟩
        exact tup_ext T1 x' hdd
      exact n_ B' (sset_alts B' P₁' R₁' hL (.inl (.tail _ (.head _))) A' fun h' tk' B₂ x₂ R₂ P₂ => wpAny_execs_nil (hK _ _ ⟨B₂.x, ⟨hin, R₂, P₂⟩, by walk_at "SM"⟩))

theorem read_alternate_c {w : World} {h : Heap} {r d tl sp sd : Addr} {ts : List (Addr × Tk)} {rem rem' : List Tk} {S S' : Spec} (G : G1 w h) (R : Rd h r d tl ts rem) (P : SpecAt h sp sd S) (T : Toks (hideAll h [d, sd]) tl ts) (hne : 0 < ts.length) (hn : altP rem S = some (S', rem')) (hsz : S.alts.length ≤ 1000) :
    Calls w 6 118 [.ref r, .ref sp] [d, sd] h (fun _ h' => Rd h' r d tl ts rem' ∧ SpecAt h' sp sd S') := by
  unfold altP at hn
  obtain ⟨q, hq, hn⟩ := Option.bind_eq_some_iff.mp hn
  cases hin : (S.alts.map (·.1)).any (· == q.1) with
  | true => rw [hin] at hn; cases hn
  | false =>
  rw [hin] at hn
  injection hn with hn
  injection hn with e1 e2
  intro A s K hs ok kk
  refine read_alternate_b G R P T hne hq hsz A s K hs ok (fun v h' tk' x p => kk v h' tk' x ⟨e2 ▸ p.2.1, e1 ▸ p.2.2⟩) fun b => ?_
  rw [hin] at b; cases b
noncomputable def orgL : List (Str × Tok) := [("SEQUENTIAL", 254), ("RELATIVE", 255), ("INDEXED", 256)]
noncomputable def accL : List (Str × Tok) := [("SEQUENTIAL", 258), ("RANDOM", 259), ("DYNAMIC", 260)]
theorem at_63 {w : World} {h : Heap} (G : G1 w h) : h.IsTuple 63 (strValues orgL).toArray := ⟨_, G.X _ _ (show (K0 w.params).lookup 63 = some (o_63 w.params) by kernel_rfl), rfl, 0, rfl⟩
theorem at_64 {w : World} {h : Heap} (G : G1 w h) : h.IsTuple 64 (strValues accL).toArray := ⟨_, G.X _ _ (show (K0 w.params).lookup 64 = some (o_64 w.params) by kernel_rfl), rfl, 0, rfl⟩
noncomputable def clauseP (rem : List Tk) (S : Spec) : Option (Str × Spec × List Tk) :=
  if heads ["ASSIGN"] rem then (assignP (after ["ASSIGN"] rem)).map fun q => ("ASSIGN", { S with path := q.1 }, q.2)
  else if heads ["ACCESS"] rem then (firstOf (accL.map (·.1)) (after ["IS"] (after ["MODE"] (after ["ACCESS"] rem)))).map fun x => ("ACCESS", { S with acc := Txt.lower x }, (after ["IS"] (after ["MODE"] (after ["ACCESS"] rem))).tail)
  else if heads ["RECORD"] rem then (nameP (after ["IS"] (after ["KEY"] (after ["RECORD"] rem)))).map fun q => ("RECORD", { S with key := q.1 }, q.2)
  else if heads ["ALTERNATE"] rem then (altP (after ["ALTERNATE"] rem) S).map fun q => ("ALTERNATE", q.1, q.2)
  else if heads ["FILE", "STATUS"] rem then (nameP (after ["IS"] (after ["FILE", "STATUS"] rem))).map fun q => ("STATUS", { S with st := q.1 }, q.2)
  else if heads ["STATUS"] rem then (nameP (after ["IS"] (after ["STATUS"] rem))).map fun q => ("STATUS", { S with st := q.1 }, q.2)
  else if heads ["RELATIVE"] rem then relP (after ["RELATIVE"] rem) S
  else if heads ["ORGANIZATION"] rem then (firstOf (orgL.map (·.1)) (after ["LINE"] (after ["IS"] (after ["ORGANIZATION"] rem)))).map fun x => ("ORGANIZATION", { S with org := Txt.lower x }, (after ["LINE"] (after ["IS"] (after ["ORGANIZATION"] rem))).tail)
  else (firstOf (orgL.map (·.1)) rem).map fun x => ("ORGANIZATION", { S with org := Txt.lower x }, rem.tail)
theorem org_words : ∀ q ∈ orgL, Txt.split q.1 " " = [q.1] ∧ q.1.length ≤ 1000 := by decide +kernel
theorem acc_words : ∀ q ∈ accL, Txt.split q.1 " " = [q.1] ∧ q.1.length ≤ 1000 := by decide +kernel
theorem map_some3 {α : Type} {o : Option α} {f : α → Str × Spec × List Tk} {x : Str} {S : Spec} {r : List Tk} (h : o.map f = some (x, S, r)) : ∃ q, o = some q ∧ x = (f q).1 ∧ S = (f q).2.1 ∧ r = (f q).2.2 := by
  obtain ⟨q, hq, e⟩ := Option.map_eq_some_iff.mp h
  exact ⟨q, hq, by rw [e], by rw [e], by rw [e]⟩
theorem read_clause_c {w : World} {h : Heap} {r d tl sp sd : Addr} {ts : List (Addr × Tk)} {rem rem' : List Tk} {S S' : Spec} {x : Str} (G : G1 w h) (R : Rd h r d tl ts rem) (P : SpecAt h sp sd S) (T : Toks (hideAll h [d, sd]) tl ts) (hne : 0 < ts.length) (hn : clauseP rem S = some (x, S', rem')) (hsz : S.alts.length ≤ 1000) :
    Calls w 7 132 [.ref r, .ref sp] [d, sd] h (fun v h' => (∃ t, v = .str x t) ∧ Rd h' r d tl ts rem' ∧ SpecAt h' sp sd S') := by
  refine Calls.mk (fs_read_clause w _ _) G (hD2 P R) fun A s g tg hz L E ok B x0 => cutK fun K hK => ?_
  have T : Toks hz tl ts := B.hz ▸ T
  have hL := nL P R B.L0
  have R₁ := R.keeps x0.keeps
  have P₁ := P.kp x0
  unfold clauseP at hn
  refine wpAny_execs_cons (wpAny_If (isTrue_plain (rskip_ ["ASSIGN"] B R₁ T fun h₂ tk₂ B₂ x2 R₂ => wpAny_truthy_bool ?_)))
  have P₂ := P₁.sk R₁ x2
  cases hk1 : heads ["ASSIGN"] rem with
  | true =>
    rw [hk1, if_pos rfl] at hn
    obtain ⟨q, hq, rfl, rfl, rfl⟩ := map_some3 hn
    refine wpAny_execs_cons (wpAny_Expr_any (f2_ B₂ (gl_read_assign w) (kp_read_assign w) (n_ B₂ (n_ B₂ ⟨⟨_, B₂.F⟩, ?_⟩))))
    refine B₂.use (read_assign_c B₂.G1 R₂ P₂ (T.keeps B₂.over) hq) fun v h₃ tk₃ B₃ x3 p => ?_
    exact wpAny_execs_cons (wpAny_Return_some (wpAny_Constant_str (hK _ _ ⟨B₃.x, ⟨⟨_, rfl⟩, p.1, p.2⟩, by walk_at "SM"⟩)))
  | false =>
  rw [hk1] at hn
  rw [after_f hk1] at R₂
  refine wpAny_execs_nil (wpAny_execs_cons (wpAny_If (isTrue_plain (rskip_ ["ACCESS"] B₂ R₂ T fun h₃ tk₃ B₃ x3 R₃ => wpAny_truthy_bool ?_))))
  have P₃ := P₂.sk R₂ x3
  cases hk2 : heads ["ACCESS"] rem with
  | true =>
    rw [hk2] at hn
    obtain ⟨q, hq, rfl, rfl, rfl⟩ := map_some3 hn
    refine wpAny_execs_cons (wpAny_Expr_any (rskip_ ["MODE"] B₃ R₃ T fun h₄ tk₄ B₄ x4 R₄ => ?_))
    have P₄ := P₃.sk R₃ x4
    refine wpAny_execs_cons (wpAny_Expr_any (rskip_ ["IS"] B₄ R₄ T fun h₅ tk₅ B₅ x5 R₅ => ?_))
    have P₅ := P₄.sk R₄ x5
    refine wpAny_execs_cons (plainObj_wpAny_Assign_Attribute (f2_ B₅ (gl_one_word w) (kp_one_word w) (n_ B₅ (g_ B₅ (gl_ACCESSES w) ⟨⟨_, B₅.F⟩, ?_⟩))))
    refine B₅.use (one_word_c B₅.G1 R₅ (T.keeps B₅.over) (at_64 (B₅.G.keeps B₅.over)) acc_words hq) fun v h₆ tk₆ B₆ x6 p => ?_
    obtain ⟨⟨t, rfl⟩, R₆⟩ := p
    have P₆ := P₅.sk R₅ x6
    refine n_ B₆ (sset_ B₆ (ss_FileSpec_access w) P₆ R₆ hL (.inl (.tail _ (.head _))) (set_acc _ _) fun h₇ tk₇ B₇ x7 R₇ P₇ => ?_)
    exact wpAny_execs_cons (wpAny_Return_some (wpAny_Constant_str (hK _ _ ⟨B₇.x, ⟨⟨_, rfl⟩, R₇, P₇⟩, by walk_at "SM"⟩)))
  | false =>
  rw [hk2] at hn
  rw [after_f hk2] at R₃
  refine wpAny_execs_nil (wpAny_execs_cons (wpAny_If (isTrue_plain (rskip_ ["RECORD"] B₃ R₃ T fun h₄ tk₄ B₄ x4 R₄ => wpAny_truthy_bool ?_))))
  have P₄ := P₃.sk R₃ x4
  cases hk3 : heads ["RECORD"] rem with
  | true =>
    rw [hk3] at hn
    obtain ⟨q, hq, rfl, rfl, rfl⟩ := map_some3 hn
    refine wpAny_execs_cons (wpAny_Expr_any (f2_ B₄ (gl_read_record_key w) (kp_read_record_key w) (n_ B₄ (n_ B₄ ⟨⟨_, B₄.F⟩, ?_⟩))))
    refine B₄.use (read_record_key_c B₄.G1 R₄ P₄ (T.keeps B₄.over) hq) fun v h₅ tk₅ B₅ x5 p => ?_
    exact wpAny_execs_cons (wpAny_Return_some (wpAny_Constant_str (hK _ _ ⟨B₅.x, ⟨⟨_, rfl⟩, p.1, p.2⟩, by walk_at "SM"⟩)))
  | false =>
  rw [hk3] at hn
  rw [after_f hk3] at R₄
  refine wpAny_execs_nil (wpAny_execs_cons (wpAny_If (isTrue_plain (rskip_ ["ALTERNATE"] B₄ R₄ T fun h₅ tk₅ B₅ x5 R₅ => wpAny_truthy_bool ?_))))
  have P₅ := P₄.sk R₄ x5
  cases hk4 : heads ["ALTERNATE"] rem with
  | true =>
    rw [hk4] at hn
    obtain ⟨q, hq, rfl, rfl, rfl⟩ := map_some3 hn
    refine wpAny_execs_cons (wpAny_Expr_any (f2_ B₅ (gl_read_alternate w) (kp_read_alternate w) (n_ B₅ (n_ B₅ ⟨⟨_, B₅.F⟩, ?_⟩))))
    refine B₅.use (read_alternate_c B₅.G1 R₅ P₅ (T.keeps B₅.over) hne hq hsz) fun v h₆ tk₆ B₆ x6 p => ?_
    exact wpAny_execs_cons (wpAny_Return_some (wpAny_Constant_str (hK _ _ ⟨B₆.x, ⟨⟨_, rfl⟩, p.1, p.2⟩, by walk_at "SM"⟩)))
  | false =>
  rw [hk4] at hn
  rw [after_f hk4] at R₅
  refine wpAny_execs_nil (wpAny_execs_cons (wpAny_If (isTrue_or (isTrue_plain (rskip_ ["FILE", "STATUS"] B₅ R₅ T fun h₆ tk₆ B₆ x6 R₆ => wpAny_truthy_bool ?_)))))
  have P₆ := P₅.sk R₅ x6
  cases hk5 : heads ["FILE", "STATUS"] rem with
  | true =>
    rw [hk5] at hn
    obtain ⟨q, hq, rfl, rfl, rfl⟩ := map_some3 hn
    refine wpAny_execs_cons (wpAny_Expr_any (rskip_ ["IS"] B₆ R₆ T fun h₇ tk₇ B₇ x7 R₇ => ?_))
    have P₇ := P₆.sk R₆ x7
    refine wpAny_execs_cons (plainObj_wpAny_Assign_Attribute (rname_ B₇ R₇ T hq fun t h₈ tk₈ B₈ x8 R₈ => ?_))
    have P₈ := P₇.sk R₇ x8
    refine n_ B₈ (sset_ B₈ (ss_FileSpec_status w) P₈ R₈ hL (.inl (.tail _ (.head _))) (set_st _ _) fun h₉ tk₉ B₉ x9 R₉ P₉ => ?_)
    exact wpAny_execs_cons (wpAny_Return_some (wpAny_Constant_str (hK _ _ ⟨B₉.x, ⟨⟨_, rfl⟩, R₉, P₉⟩, by walk_at "SM"⟩)))
  | false =>
  rw [hk5] at hn
  rw [after_f hk5] at R₆
  refine isTrue_or (isTrue_plain (rskip_ ["STATUS"] B₆ R₆ T fun h₇ tk₇ B₇ x7 R₇ => wpAny_truthy_bool ?_))
  have P₇ := P₆.sk R₆ x7
  cases hk6 : heads ["STATUS"] rem with
  | true =>
    rw [hk6] at hn
    obtain ⟨q, hq, rfl, rfl, rfl⟩ := map_some3 hn
    refine wpAny_execs_cons (wpAny_Expr_any (rskip_ ["IS"] B₇ R₇ T fun h₈ tk₈ B₈ x8 R₈ => ?_))
    have P₈ := P₇.sk R₇ x8
    refine wpAny_execs_cons (plainObj_wpAny_Assign_Attribute (rname_ B₈ R₈ T hq fun t h₉ tk₉ B₉ x9 R₉ => ?_))
    have P₉ := P₈.sk R₈ x9
    refine n_ B₉ (sset_ B₉ (ss_FileSpec_status w) P₉ R₉ hL (.inl (.tail _ (.head _))) (set_st _ _) fun h₁ tk₁ B₁ x1 R₁ P₁ => ?_)
    exact wpAny_execs_cons (wpAny_Return_some (wpAny_Constant_str (hK _ _ ⟨B₁.x, ⟨⟨_, rfl⟩, R₁, P₁⟩, by walk_at "SM"⟩)))
  | false =>
  rw [hk6] at hn
  rw [after_f hk6] at R₇
  refine isTrue_or_nil (wpAny_execs_nil (wpAny_execs_cons (wpAny_If (isTrue_plain (rskip_ ["RELATIVE"] B₇ R₇ T fun h₈ tk₈ B₈ x8 R₈ => wpAny_truthy_bool ?_)))))
  have P₈ := P₇.sk R₇ x8
  cases hk7 : heads ["RELATIVE"] rem with
  | true =>
    rw [hk7] at hn
    refine wpAny_execs_cons (wpAny_Return_some (f2_ B₈ (gl_read_relative w) (kp_read_relative w) (n_ B₈ (n_ B₈ ⟨⟨_, B₈.F⟩, ?_⟩))))
    refine B₈.use (read_relative_c B₈.G1 R₈ P₈ (T.keeps B₈.over) hn) fun v h₉ tk₉ B₉ x9 p => ?_
    exact (hK _ _ ⟨B₉.x, p, by walk_at "SM"⟩)
  | false =>
  rw [hk7] at hn
  rw [after_f hk7] at R₈
  refine wpAny_execs_nil (wpAny_execs_cons (wpAny_If (isTrue_plain (rskip_ ["ORGANIZATION"] B₈ R₈ T fun h₉ tk₉ B₉ x9 R₉ => wpAny_truthy_bool ?_))))
  have P₉ := P₈.sk R₈ x9
  cases hk8 : heads ["ORGANIZATION"] rem with
  | true =>
    rw [hk8] at hn
    obtain ⟨q, hq, rfl, rfl, rfl⟩ := map_some3 hn
    refine wpAny_execs_cons (wpAny_Expr_any (rskip_ ["IS"] B₉ R₉ T fun h₃ tk₃ B₃ x3 R₃ => ?_))
    have P₃ := P₉.sk R₉ x3
    refine wpAny_execs_cons (wpAny_Expr_any (rskip_ ["LINE"] B₃ R₃ T fun h₅ tk₅ B₅ x5 R₅ => wpAny_execs_nil ?_))
    have P₅ := P₃.sk R₃ x5
    refine wpAny_execs_cons (plainObj_wpAny_Assign_Attribute (f2_ B₅ (gl_one_word w) (kp_one_word w) (n_ B₅ (g_ B₅ (gl_ORGANIZATIONS w) ⟨⟨_, B₅.F⟩, ?_⟩))))
    refine B₅.use (one_word_c B₅.G1 R₅ (T.keeps B₅.over) (at_63 (B₅.G.keeps B₅.over)) org_words hq) fun v h₆ tk₆ B₆ x6 p => ?_
    obtain ⟨⟨t, rfl⟩, R₆⟩ := p
    have P₆ := P₅.sk R₅ x6
    refine n_ B₆ (sset_ B₆ (ss_FileSpec_organization w) P₆ R₆ hL (.inl (.tail _ (.head _))) (set_org _ _) fun h₇ tk₇ B₇ x7 R₇ P₇ => ?_)
    exact wpAny_execs_cons (wpAny_Return_some (wpAny_Constant_str (hK _ _ ⟨B₇.x, ⟨⟨_, rfl⟩, R₇, P₇⟩, by walk_at "SM"⟩)))
  | false =>
    rw [hk8] at hn
    rw [after_f hk8] at R₉
    obtain ⟨q, hq, rfl, rfl, rfl⟩ := map_some3 hn
    refine wpAny_execs_nil (wpAny_execs_cons (plainObj_wpAny_Assign_Attribute (f2_ B₉ (gl_one_word w) (kp_one_word w) (n_ B₉ (g_ B₉ (gl_ORGANIZATIONS w) ⟨⟨_, B₉.F⟩, ?_⟩)))))
    refine B₉.use (one_word_c B₉.G1 R₉ (T.keeps B₉.over) (at_63 (B₉.G.keeps B₉.over)) org_words hq) fun v h₆ tk₆ B₆ x6 p => ?_
    obtain ⟨⟨t, rfl⟩, R₆⟩ := p
    have P₆ := P₉.sk R₉ x6
    refine n_ B₆ (sset_ B₆ (ss_FileSpec_organization w) P₆ R₆ hL (.inl (.tail _ (.head _))) (set_org _ _) fun h₇ tk₇ B₇ x7 R₇ P₇ => ?_)
    exact wpAny_execs_cons (wpAny_Return_some (wpAny_Constant_str (hK _ _ ⟨B₇.x, ⟨⟨_, rfl⟩, R₇, P₇⟩, by walk_at "SM"⟩)))

/-- an ALTERNATE clause with a name that stands already -/
noncomputable def altDup (rem : List Tk) (S : Spec) : Prop := heads ["ASSIGN"] rem = false ∧ heads ["ACCESS"] rem = false ∧ heads ["RECORD"] rem = false ∧ heads ["ALTERNATE"] rem = true ∧
  ∃ q, nameP (after ["IS"] (after ["KEY"] (after ["RECORD"] (after ["ALTERNATE"] rem)))) = some q ∧ (S.alts.map (·.1)).any (· == q.1) = true
theorem read_clause_e {w : World} {h : Heap} {r d tl sp sd : Addr} {ts : List (Addr × Tk)} {rem : List Tk} {S : Spec} {post : Value → Heap → Prop} (G : G1 w h) (R : Rd h r d tl ts rem) (P : SpecAt h sp sd S) (T : Toks (hideAll h [d, sd]) tl ts) (hne : 0 < ts.length) (hn : altDup rem S) (hsz : S.alts.length ≤ 1000) :
    CallsB w 7 132 [.ref r, .ref sp] [d, sd] h post True := by
  refine CallsB.mk (fs_read_clause w _ _) G (hD2 P R) fun A s g tg hz L E ok B x0 hE => cutK fun K hK => ?_
  have T : Toks hz tl ts := B.hz ▸ T
  have R₁ := R.keeps x0.keeps
  have P₁ := P.kp x0
  obtain ⟨k1, k2, k3, k4, q, hq, hin⟩ := hn
  refine wpAny_execs_cons (wpAny_If (isTrue_plain (rskip_ ["ASSIGN"] B R₁ T fun h₂ tk₂ B₂ x2 R₂ => wpAny_truthy_bool ?_)))
  have P₂ := P₁.sk R₁ x2
  rw [k1]; rw [after_f k1] at R₂
  refine wpAny_execs_nil (wpAny_execs_cons (wpAny_If (isTrue_plain (rskip_ ["ACCESS"] B₂ R₂ T fun h₃ tk₃ B₃ x3 R₃ => wpAny_truthy_bool ?_))))
  have P₃ := P₂.sk R₂ x3
  rw [k2]; rw [after_f k2] at R₃
  refine wpAny_execs_nil (wpAny_execs_cons (wpAny_If (isTrue_plain (rskip_ ["RECORD"] B₃ R₃ T fun h₄ tk₄ B₄ x4 R₄ => wpAny_truthy_bool ?_))))
  have P₄ := P₃.sk R₃ x4
  rw [k3]; rw [after_f k3] at R₄
  refine wpAny_execs_nil (wpAny_execs_cons (wpAny_If (isTrue_plain (rskip_ ["ALTERNATE"] B₄ R₄ T fun h₅ tk₅ B₅ x5 R₅ => wpAny_truthy_bool ?_))))
  have P₅ := P₄.sk R₄ x5
  rw [k4]
  refine wpAny_execs_cons (wpAny_Expr_any (f2_ B₅ (gl_read_alternate w) (kp_read_alternate w) (n_ B₅ (n_ B₅ ⟨⟨_, B₅.F⟩, ?_⟩))))
  refine B₅.useB (read_alternate_b B₅.G1 R₅ P₅ (T.keeps B₅.over) hne hq hsz) (fun v h₆ tk₆ B₆ x6 p => ?_) (fun _ => hE trivial)
  rw [hin] at p; cases p.1
/-- what a clause comes to -/
noncomputable def ClauseR (b : Bool) (rem : List Tk) (S : Spec) (x : Str) (S' : Spec) (rem' : List Tk) : Prop := (b = false ∧ clauseP rem S = some (x, S', rem')) ∨ (b = true ∧ altDup rem S)
theorem read_clause_b {w : World} {h : Heap} {r d tl sp sd : Addr} {ts : List (Addr × Tk)} {rem rem' : List Tk} {S S' : Spec} {x : Str} {b : Bool} (G : G1 w h) (R : Rd h r d tl ts rem) (P : SpecAt h sp sd S) (T : Toks (hideAll h [d, sd]) tl ts) (hne : 0 < ts.length) (hn : ClauseR b rem S x S' rem') (hsz : S.alts.length ≤ 1000) :
    CallsB w 7 132 [.ref r, .ref sp] [d, sd] h (fun v h' => b = false ∧ (∃ t, v = .str x t) ∧ Rd h' r d tl ts rem' ∧ SpecAt h' sp sd S') (b = true) := by
  rcases hn with ⟨rfl, hn⟩ | ⟨rfl, hn⟩
  · intro A s K hs ok kk _
    exact read_clause_c G R P T hne hn hsz A s K hs ok fun v h' tk' x p => kk v h' tk' x ⟨rfl, p⟩
  · intro A s K hs ok kk kb
    exact read_clause_e (post := fun _ _ => False) G R P T hne hn hsz A s K hs ok (fun v h' tk' x p => p.elim) fun _ => kb rfl
/-- the clauses read till the period, with the words met; true: a GrammarFault -/
inductive Reads : Bool → Nat → List Str → Spec → List Tk → Spec → List Tk → Prop
  | done {met S rem} : signB "." rem = true → Reads false 0 met S rem S rem.tail
  | stop {n met S S' rem'} : Reads true n met S [] S' rem'
  | step {b cb n met S rem x S' rem' S'' rem''} : signB "." rem = false → rem ≠ [] → ClauseR cb rem S x S' rem' → S.alts.length ≤ 1000 → x.length ≤ 1000 → (cb = true → b = true) →
      (cb = false → (met.any (· == x) && x != "ALTERNATE") = true → b = true) → (cb = false → (met.any (· == x) && x != "ALTERNATE") = false → Reads b n (met ++ [x]) S' rem' S'' rem'') → Reads b (n + 1) met S rem S'' rem''
noncomputable def spec0 (nm : Str) : Spec := ⟨nm, "", "sequential", "sequential", "", [], "", ""⟩
theorem strs_snoc {vs : List Value} {ys : List Str} (P : StrsAre vs ys) (x : Str) (t : Tok) : StrsAre (vs ++ [.str x t]) (ys ++ [x]) := by
  induction P with
  | nil => exact .cons _ _ .nil
  | cons y u _ ih => exact .cons _ _ ih
theorem strs_length {vs : List Value} {ys : List Str} (P : StrsAre vs ys) : vs.length = ys.length := by induction P <;> simp_all
theorem read_select_b {w : World} {h : Heap} {r d tl : Addr} {ts : List (Addr × Tk)} {rem rem1 rem' : List Tk} {nm : Str} {S : Spec} {n : Nat} {bb : Bool} (G : G1 w h) (R : Rd h r d tl ts rem) (T : Toks (hideAll h [d]) tl ts) (hne : 0 < ts.length)
    (hn : nameP (after ["OPTIONAL"] rem) = some (nm, rem1)) (hr : Reads bb n [] (spec0 nm) rem1 S rem') (hn1 : n ≤ 1000) :
    CallsB w 8 146 [.ref r] [d] h (fun v h' => (bb || !wholeB S) = false ∧ ∃ sp sd, v = .ref sp ∧ h.objs.size ≤ sp ∧ h.objs.size ≤ sd ∧ Rd h' r d tl ts rem' ∧ SpecAt h' sp sd S) ((bb || !wholeB S) = true) := by
  refine CallsB.mk (fs_read_select w _) G R.hD fun A s g tg hz L E ok B x0 hE => cutK fun K hK => ?_
  have T : Toks hz tl ts := B.hz ▸ T
  have R₁ := R.keeps x0.keeps
  have hrL : r ≠ L := Nat.ne_of_lt (B.L0 ▸ R.lt.1)
  have hdL : d ≠ L := Nat.ne_of_lt (B.L0 ▸ R.lt.2.2)
  have hdl : d < L := B.L0 ▸ R.lt.2.2
  refine wpAny_execs_cons (wpAny_Expr_any (rskip_ ["OPTIONAL"] B R₁ T fun h₂ tk₂ B₂ x2 R₂ => ?_))
  refine wpAny_execs_cons (as_name (rfault_ B₂ R₂ T hne fun pe h₃ tk₃ B₃ x3 hpe Gf3 => s_ B₃ fun h₄ tk₄ B₄ x4 => ?_))
  have R₃ := R₂.keeps x3.keeps
  have R₄ := R₃.ext x4 (nin1 hrL) (nin1 hdL)
  refine wpAny_execs_cons (as_name (f1_ B₄ (gl_FileSpec w) (kc_File w) (rname_ B₄ R₄ T hn fun t h₅ tk₅ B₅ x5 R₅ => ⟨⟨_, B₅.F⟩, ?_⟩)))
  refine make_ (post := fun x dx h' => SpecAt h' x dx (spec0 nm)) B₅ (mk_File w) (in_File w) (ft_File w) (fun x dx h' G' x' I => file_init_c G' I) fun sp sd h₆ tk₆ B₆ x6 hsd hsp P₆ => ?_
  have hLsd : L < sd := Nat.lt_of_lt_of_le B₅.Llt hsd
  have hpe0 : h.objs.size ≤ pe := Nat.le_trans (Nat.le_of_lt (B.L0 ▸ B₂.Llt)) hpe
  have g6 : Ge h₆ pe := ((Gf3.ge.ext x4 (one_dict B₃.isDict)).ext x5 (one_dict R₄.isDict)).ext x6 nil_mem
  have hLsp : L < sp := Nat.lt_of_lt_of_le B₅.Llt hsp
  have R₆ := R₅.keeps x6.keeps
  refine s_ B₆ fun h₇ tk₇ B₇ x7 => ?_
  have R₇ := R₆.ext x7 (nin1 hrL) (nin1 hdL)
  have P₇ := P₆.ext x7 (one_dict B₆.isDict) (nin1 (Nat.ne_of_gt hLsd))
  refine wpAny_execs_cons (as_name (wpAny_List (args_nil ⟨Nat.zero_le _, ?_⟩)))
  generalize hmo : ({ cls := .type "list", data := .seq ([] : List Value).toArray } : Obj) = mo
  have B₈ := B₇.push mo
  have x8 : Ext [] h₇ (h₇.push mo) := Ext.push _ _
  have hLm : L < h₇.objs.size := B₇.Llt
  refine s_ B₈ fun h₉ tk₉ B₉ x9 => ?_
  have R₉ := (R₇.keeps x8.keeps).ext x9 (nin1 hrL) (nin1 hdL)
  have P₉ := (P₇.kp x8).ext x9 (one_dict B₈.isDict) (nin1 (Nat.ne_of_gt hLsd))
  have M₉ : h₉.PlainList h₇.objs.size #[] := pl_ext ⟨0, by rw [Heap.get?_push_size _ (by rw [← hmo]; rfl), ← hmo]⟩ x9 (nin1 (Nat.ne_of_gt hLm))
  have g9 : Ge h₉ pe := ((g6.ext x7 (one_dict B₆.isDict)).ext x8 nil_mem).ext x9 (one_dict B₈.isDict)
  generalize hml : h₇.objs.size = ml at *
  have hmd : ml ≠ d := Nat.ne_of_gt (Nat.lt_trans hdl hLm)
  have hmsd : ml ≠ sd := by
    rintro rfl
    obtain ⟨o, es, n', e1, e2⟩ := P₉.isDict
    obtain ⟨k, e3⟩ := M₉
    rw [e3] at e1; cases e1; cases e2
  refine wpAny_execs_cons (wpAny_While (whileE_ (σ := s) (fun n h' => ∃ ls met S' rem vs, Reads bb n met S' rem S rem' ∧ Bd w [d] s h L hz h' ls ∧ (look ls "reader" = some (.ref r) ∧ look ls "spec" = some (.ref sp) ∧ look ls "met" = some (.ref ml) ∧ look ls "place" = some (.ref pe)) ∧
    Rd h' r d tl ts rem ∧ SpecAt h' sp sd S' ∧ h'.PlainList ml vs.toArray ∧ StrsAre vs met ∧ met.length + n ≤ 1000 ∧ Ge h' pe) n
    ⟨_, [], _, _, [], hr, B₉, ⟨by walk_at "LK", by walk_at "LK", by walk_at "LK", by walk_at "LK"⟩, R₉, P₉, M₉, .nil, by simpa using hn1, g9⟩ fun n h₁ tk₁ I => ?_))
  obtain ⟨ls, met, S₁, rem₁, vs, hrd, B₁, ⟨l1, l2, l3, l4⟩, R₁, P₁, M₁, V₁, hlen, g₁⟩ := I
  obtain ⟨kk, tt, nmm, I₁⟩ := R₁.inst
  refine isTrue_not (isTrue_plain ?_)
  refine m1_ B₁ (ms_Reader_skip_sign w) I₁ (wpAny_Constant_str ⟨⟨_, B₁.F⟩, ?_⟩)
  refine Bd.use (s := { St s h₁ tk₁ with toks := tk₁ + 1 }) B₁ (skip_sign_c B₁.G1 R₁ (T.keeps B₁.over)) fun v h₂ tk₂ B₂ x2 p => ?_
  obtain ⟨rfl, R₂⟩ := p
  have P₂ := P₁.sk R₁ x2
  have M₂ := pl_ext M₁ x2 (nin1 hmd)
  have g₂ : Ge h₂ pe := g₁.ext x2 (one_dict R₁.isDict)
  have low : ∀ {e : Addr} {h' ls'}, Bd w [d] s h L hz h' ls' → h'.objs.size ≤ e → h.objs.size ≤ e := fun B he => Nat.le_trans (Nat.le_of_lt (B.L0 ▸ B.Llt)) he
  refine wpAny_truthy_bool ?_
  unfold afterSign at R₂
  cases hrd with
  | done hs =>
    rw [hs] at R₂ ⊢
    have R₂ : Rd h₂ r d tl ts rem₁.tail := R₂
    refine wpAny_execs_cons (wpAny_If (isTrue_not (isTrue_plain (f1_ B₂ (gl_is_whole_spec w) (kp_is_whole_spec w) (n_ B₂ ⟨⟨_, B₂.F⟩, ?_⟩)))))
    refine B₂.use (is_whole_c B₂.G1 P₂) fun v h₃ tk₃ B₃ x3 p => ?_
    subst p
    refine wpAny_truthy_bool ?_
    cases hw : wholeB S with
    | false =>
    obtain ⟨outer, go⟩ := hE (by rw [hw]; rfl)
    exact wpAny_execs_cons (raise_ go (n_ B₃ ⟨pe, _, _, rfl, B₃, hpe0, g₂.ext x3 nil_mem, by walk_at "SM"⟩))
    | true =>
    refine wpAny_execs_nil ?_
    exact wpAny_execs_cons (wpAny_Return_some (n_ B₃ (hK _ _ ⟨B₃.x, ⟨by rw [hw]; rfl, sp, sd, rfl, Nat.le_of_lt (B.L0 ▸ hLsp), Nat.le_of_lt (B.L0 ▸ hLsd), R₂.keeps x3.keeps, P₂.kp x3⟩, by walk_at "SM"⟩)))
  | stop =>
    rw [show signB "." [] = false from rfl] at R₂ ⊢
    have R₂ : Rd h₂ r d tl ts [] := R₂
    refine wpAny_execs_cons (as_name (rm0_ B₂ R₂ (ms_Reader_peek w) (peek_r B₂.G1 R₂ (T.keeps B₂.keep)) fun v h₃ tk₃ B₃ x3 p => s_ B₃ fun h₄ tk₄ B₄ x4 => ?_))
    have p : v = .none := p
    subst p
    have R₄ := (R₂.keeps x3.keeps).ext x4 (nin1 hrL) (nin1 hdL)
    obtain ⟨outer, go⟩ := hE rfl
    refine wpAny_execs_cons (wpAny_If (wpAny_isTrue_Compare1 (n_ B₄ (wpAny_Constant_none (is_none (wpAny_truthy_bool ?_))))))
    exact wpAny_execs_cons (raise_ go.noted (rfault_ B₄ R₄ T hne fun e h₅ tk₅ B₅ x5 he Gf5 => ⟨e, _, _, rfl, B₅, low B₄ he, Gf5.ge, by walk_at "SM"⟩))
  | @step _ cb n _ _ _ x S₂ rem₂ _ _ hs hne' hcl hal hxl hb1 hb2 hrest =>
    rw [hs] at R₂ ⊢
    have R₂ : Rd h₂ r d tl ts rem₁ := R₂
    refine cutK fun K2 hK2 => ?_
    refine wpAny_execs_cons (as_name (rm0_ B₂ R₂ (ms_Reader_peek w) (peek_r B₂.G1 R₂ (T.keeps B₂.keep)) fun v h₃ tk₃ B₃ x3 p => s_ B₃ fun h₄ tk₄ B₄ x4 => ?_))
    have hv : (v == Value.none) = false := by
      cases rem₁ with
      | nil => exact absurd rfl hne'
      | cons t rr =>
        obtain ⟨q, _, rfl, _⟩ := p
        rfl
    have R₄ := (R₂.keeps x3.keeps).ext x4 (nin1 hrL) (nin1 hdL)
    have P₄ := (P₂.kp x3).ext x4 (one_dict B₃.isDict) (nin1 (Nat.ne_of_gt hLsd))
    have M₄ := pl_ext (pl_ext M₂ x3 nil_not) x4 (nin1 (Nat.ne_of_gt hLm))
    refine wpAny_execs_cons (wpAny_If (wpAny_isTrue_Compare1 (n_ B₄ (wpAny_Constant_none (is_none (wpAny_truthy_bool ?_))))))
    rw [hv]
    refine wpAny_execs_nil (wpAny_execs_cons (as_name (f2_ B₄ (gl_read_clause w) (kp_read_clause w) (n_ B₄ (n_ B₄ ⟨⟨_, B₄.F⟩, ?_⟩)))))
    have g₄ : Ge h₄ pe := (g₂.ext x3 nil_mem).ext x4 (one_dict B₃.isDict)
    refine B₄.useB (qn := "read_select") (sc := s_146) (f := 146) (cd := .ref 145) (read_clause_b B₄.G1 R₄ P₄ (T.keeps (B₄.over (D' := [d, sd]) ?_)) hne hcl hal) (fun v h₅ tk₅ B₅ x5 p => ?_) (fun hc => ?_) (hs := ?_)
    · intro y m
      rcases List.mem_cons.mp m with rfl | m
      · exact .inl (.head _)
      · rcases List.mem_cons.mp m with rfl | m
        · exact .inr hLsd
        · cases m
    · obtain ⟨hcb, ⟨t, rfl⟩, R₅, P₅⟩ := p
      have g₅ : Ge h₅ pe := g₄.ext x5 (two_dict R₄.isDict P₄.isDict)
      have M₅ := pl_ext M₄ x5 (nin2 hmd hmsd)
      refine s_ B₅ fun h₆ tk₆ B₆ x6 => ?_
      have R₆ := R₅.ext x6 (nin1 hrL) (nin1 hdL)
      have P₆ := P₅.ext x6 (one_dict B₅.isDict) (nin1 (Nat.ne_of_gt hLsd))
      have M₆ := pl_ext M₅ x6 (nin1 (Nat.ne_of_gt hLm))
      have g₆ : Ge h₆ pe := g₅.ext x6 (one_dict B₅.isDict)
      refine wpAny_execs_cons (wpAny_If (mono_q (fun b s' => ∃ tkk, b = (met.any (· == x) && x != ("ALTERNATE" : Str)) ∧ s' = St s h₆ tkk) ?_ ?_))
      · refine isTrue_and (wpAny_isTrue_Compare1 (n_ B₆ (n_ B₆ (in_list_strs (pl_isList M₆) V₁ (wpAny_truthy_bool ?_)))))
        cases hin : met.any (· == x) with
        | false => exact ⟨_, rfl, rfl⟩
        | true =>
          refine isTrue_and (wpAny_isTrue_Compare1 (n_ B₆ (wpAny_Constant_str (ne_str (wpAny_truthy_bool ?_)))))
          cases hx : (x != ("ALTERNATE" : Str)) with
          | false => exact ⟨_, rfl, rfl⟩
          | true => refine isTrue_and_nil ?_; exact ⟨_, rfl, rfl⟩
      · rintro b s' ⟨tkk, rfl, rfl⟩
        cases hmt : (met.any (· == x) && x != ("ALTERNATE" : Str)) with
        | true =>
        obtain ⟨outer, go⟩ := hE (by rw [hb2 hcb hmt]; rfl)
        have hah : ∃ q ∈ ts, v = .ref q.1 := by
          cases rem₁ with
          | nil => exact absurd rfl hne'
          | cons t rr =>
            obtain ⟨q, hq, rfl, _⟩ := p
            exact ⟨q, hq, rfl⟩
        obtain ⟨qq, hqq, rfl⟩ := hah
        have T₆ : Toks h₆ tl ts := T.keeps B₆.keep
        obtain ⟨d', t1', t2', atv, b, I', hv'⟩ := T₆.tk qq hqq
        refine wpAny_execs_cons (raise_ go.noted (f2_ B₆ (gl_GrammarFault w) (kc_Fault w) (wpAny_BinOp (wpAny_Constant_str (n_ B₆ (add_str (fun t' tk' => a_ B₆ (as_Token_at w) I' ⟨⟨_, B₆.F⟩, ?_⟩ (hv := hv')) ?_))))))
        · exact gfmake_ (s := St s h₆ _) B₆ fun e h' tk' B' x' he Gfe => ⟨e, _, _, rfl, B', low B₆ he, Gfe.ge, by walk_at "SM"⟩
        · rw [sizeLine_eq, show ("a clause twice: " : Str).length = 16 from rfl]; omega
        | false =>
        obtain ⟨km, hkm⟩ := id M₆
        refine wpAny_execs_nil (wpAny_execs_cons (wpAny_Expr_any (bm_ PySem.F.plainAttrs_list PySem.F.slot_list_append PySem.F.type_list_append (n_ B₆ ⟨(pl_isList M₆).typeIs, fun a e => ?_, n_ B₆ ?_⟩))))
        · cases e; exact ⟨_, hkm, rfl⟩
        · refine app_ B₆ M₆ (.inr hLm) (by have := strs_length V₁; simp; omega) fun h₇ tk₇ B₇ x7 M₇ => ?_
          have hdm : ∀ y, isDict h₆ y → y ∉ [ml] := fun y ⟨o, es, n', e1, e2⟩ m => by
            rcases List.mem_cons.mp m with rfl | m
            · rw [hkm] at e1; cases e1; cases e2
            · cases m
          have hrm : r ∉ [ml] := fun m => by
            rcases List.mem_cons.mp m with rfl | m
            · obtain ⟨_, _, _, II⟩ := R₆.inst
              have := II.2.2.1
              rw [hkm] at this; cases this
            · cases m
          have R₇ := R₆.ext x7 hrm (hdm d R₆.isDict)
          have P₇ : SpecAt h₇ sp sd S₂ := P₆.extL x7 M₆
          have M₇' : h₇.PlainList ml (vs ++ [Value.str x t]).toArray := by simpa using M₇
          exact wpAny_execs_nil (hK2 _ _ ⟨by walk_at "SM", n, Nat.lt_succ_self _, _, met ++ [x], S₂, rem₂, vs ++ [Value.str x t], hrest hcb hmt, B₇, ⟨by walk_at "LK", by walk_at "LK", by walk_at "LK", by walk_at "LK"⟩, R₇, P₇, M₇', strs_snoc V₁ x t, by rw [List.length_append]; simp; omega, g₆.extL x7 M₆⟩)
    · obtain ⟨outer, go⟩ := hE (by rw [hb1 hc]; rfl)
      exact ⟨outer, go.noted⟩
    · intro y m
      rcases List.mem_cons.mp m with rfl | m
      · exact .inl (.head _)
      · rcases List.mem_cons.mp m with rfl | m
        · exact .inr hLsd
        · cases m
/-- the files read; true: a GrammarFault -/
inductive Files : Bool → Nat → List Str → List Tk → List Spec → List Tk → Prop
  | done {names rem} : heads ["SELECT"] rem = false → Files false 0 names rem [] rem
  | step {b rb k n names rem nm rem1 S rem2 Ss rem'} : heads ["SELECT"] rem = true → nameP (after ["OPTIONAL"] (rem.drop 1)) = some (nm, rem1) → Reads rb n [] (spec0 nm) rem1 S rem2 → n ≤ 1000 →
      ((rb || !wholeB S) = true → b = true) → ((rb || !wholeB S) = false → names.any (· == S.name) = true → b = true) →
      ((rb || !wholeB S) = false → names.any (· == S.name) = false → Files b k (names ++ [S.name]) rem2 Ss rem') → Files b (k + 1) names rem (S :: Ss) rem'
/-- an environment division read; true: a GrammarFault -/
inductive EnvR : Bool → List Tk → List Spec → List Tk → Prop
  | none {rem} : heads ["ENVIRONMENT", "DIVISION"] rem = false → EnvR false rem [] rem
  | io {b fb rem r1 r2 r3 r4 k Ss r5 r6} : heads ["ENVIRONMENT", "DIVISION"] rem = true → rem.drop 2 = (("sign", ".") : Tk) :: r1 →
      (if heads ["CONFIGURATION", "SECTION"] r1 = true then ∃ q, r1.drop 2 = (("sign", ".") : Tk) :: q ∧ r2 = untilP stopB q else r2 = r1) →
      heads ["INPUT-OUTPUT", "SECTION"] r2 = true → r2.drop 2 = (("sign", ".") : Tk) :: r3 → heads ["FILE-CONTROL"] r3 = true → r3.drop 1 = (("sign", ".") : Tk) :: r4 → Files fb k [] r4 Ss r5 → k ≤ 1000 →
      r6 = (if heads ["I-O-CONTROL"] r5 = true then untilP behindB (r5.drop 1) else r5) → b = (fb || !behindB r6) → EnvR b rem Ss r6
  | noio {rem r1 r2} : heads ["ENVIRONMENT", "DIVISION"] rem = true → rem.drop 2 = (("sign", ".") : Tk) :: r1 →
      (if heads ["CONFIGURATION", "SECTION"] r1 = true then ∃ q, r1.drop 2 = (("sign", ".") : Tk) :: q ∧ r2 = untilP stopB q else r2 = r1) →
      heads ["INPUT-OUTPUT", "SECTION"] r2 = false → behindB r2 = true → EnvR false rem [] r2
theorem valueAt_some {kvs : List (Str × Value)} {x : Str} (h : (kvs.map (·.1)).any (· == x) = true) : (valueAt kvs x).isSome = true := by
  unfold valueAt
  rw [Option.isSome_map, List.find?_isSome]
  obtain ⟨y, hy, e⟩ := List.any_eq_true.mp h
  obtain ⟨p, hp, rfl⟩ := List.mem_map.mp hy
  exact ⟨p, hp, by simpa using e⟩
theorem read_env_b {b : Bool} {w : World} {h : Heap} {r d tl : Addr} {ts : List (Addr × Tk)} {rem rem' : List Tk} {Ss : List Spec} (G : G1 w h) (R : Rd h r d tl ts rem) (T : Toks (hideAll h [d]) tl ts) (hne : 0 < ts.length) (he : EnvR b rem Ss rem') :
    CallsB w 9 167 [.ref r] [d] h (fun v h' => b = false ∧ ∃ fd kvs, v = .ref fd ∧ h.objs.size ≤ fd ∧ Rd h' r d tl ts rem' ∧ DictS w h' fd kvs ∧ FoundIs h' fd kvs Ss) (b = true) := by
  cases hE : heads ["ENVIRONMENT", "DIVISION"] rem with
  | false =>
    cases he with
    | none _ =>
      intro A s R' hs ok kk _
      exact read_env_none G R T hE A s R' hs ok fun v h' tk x p => kk v h' tk x (let ⟨fd, a, b, c, d⟩ := p; ⟨rfl, fd, [], a, b, c, d, .nil⟩)
    | io q => rw [hE] at q; cases q
    | noio q => rw [hE] at q; cases q
  | true =>
  refine CallsB.mk (fs_read_environment w _) G R.hD fun A s g tg hz L E ok B x0 hEr => cutK fun K hK => ?_
  have T : Toks hz tl ts := B.hz ▸ T
  have R₁ := R.keeps x0.keeps
  have hrL : r ≠ L := Nat.ne_of_lt (B.L0 ▸ R.lt.1)
  have hdL : d ≠ L := Nat.ne_of_lt (B.L0 ▸ R.lt.2.2)
  have hdl : d < L := B.L0 ▸ R.lt.2.2
  have hgL : L < g.objs.size := B.Llt
  refine wpAny_execs_cons (as_name (wpAny_Dict_empty ?_))
  have B₁ := B.push { cls := .type "dict", data := .dict #[] }
  have D₁ := dicts_new w g
  have R₂ := R₁.keeps (Ext.push g { cls := .type "dict", data := .dict #[] }).keeps
  generalize hfd : g.objs.size = fd at *
  have hnf : ∀ y ∈ [d], isDict g y ∧ y ≤ fd := fun y m => one_mem m (⟨R₁.isDict, Nat.le_of_lt (Nat.lt_trans hdl hgL)⟩)
  have hfdd : fd ≠ d := Nat.ne_of_gt (Nat.lt_trans hdl hgL)
  have hfdL : fd ≠ L := Nat.ne_of_gt hgL
  refine s_ B₁ fun h₂ tk₂ B₂ x2 => ?_
  have R₂ := R₂.ext x2 (nin1 hrL) (nin1 hdL)
  have D₂ := dicts_ext D₁ x2 (nin1 hfdL)
  refine wpAny_execs_cons (wpAny_If (isTrue_not (isTrue_plain (rskip_ ["ENVIRONMENT", "DIVISION"] B₂ R₂ T fun h₃ tk₃ B₃ x3 R₃ => wpAny_truthy_bool ?_))))
  rw [hE]
  rw [after_t hE] at R₃
  have D₃ := dicts_ext D₂ x3 (nin1 hfdd)
  refine wpAny_execs_nil ?_
  have fin : ∀ {h₉ tk₉ ls kvs}, Bd w [d] s h L hz h₉ ls → look ls "reader" = some (.ref r) → look ls "found" = some (.ref fd) → Rd h₉ r d tl ts rem' → DictS w h₉ fd kvs → FoundIs h₉ fd kvs Ss → b = (!behindB rem') →
      wpAny (Mw w) A (execs (b_167.drop 5) (envOf "read_environment" s_167 L 167 (.ref 166))) K E (St s h₉ tk₉) := by
    intro h₉ tk₉ ls kvs B₉ l1 l2 R₉ D₉ F₉ hb
    refine wpAny_execs_cons (wpAny_If (isTrue_not (isTrue_plain (f1_ B₉ (gl_is_behind w) (kp_is_behind w) (n_ B₉ ⟨⟨_, B₉.F⟩, ?_⟩)))))
    refine B₉.use (is_behind_c B₉.G1 R₉ (T.keeps B₉.keep)) fun v h₅ tk₅ B₅ x5 p => ?_
    subst p
    refine wpAny_truthy_bool ?_
    cases hbb : behindB rem' with
    | false =>
    obtain ⟨outer, go⟩ := hEr (by rw [hb, hbb]; rfl)
    exact wpAny_execs_cons (raise_ go (rfault_ B₅ (R₉.keeps x5.keeps) T hne fun e h₆ tk₆ B₆ x6 he Gf6 => ⟨e, _, _, rfl, B₆, Nat.le_trans (Nat.le_of_lt (B.L0 ▸ B₅.Llt)) he, Gf6.ge, by walk_at "SM"⟩))
    | true =>
    refine wpAny_execs_nil ?_
    exact wpAny_execs_cons (wpAny_Return_some (n_ B₅ (hK _ _ ⟨B₅.x, ⟨by rw [hb, hbb]; rfl, fd, kvs, rfl, Nat.le_of_lt (B.L0 ▸ hgL), R₉.keeps x5.keeps, dicts_ext D₉ x5 nil_not, F₉.kp x5⟩, by walk_at "SM"⟩)))
  have h409 : 409 ≤ fd := Nat.le_trans G.size (Nat.le_of_lt (B.L0 ▸ hgL))
  have hsm : (fd == sysModules) = false := beq_eq_false_iff_ne.mpr fun e => absurd (e ▸ h409 : 409 ≤ sysModules) (by decide)
  cases he with
  | none q => rw [hE] at q; cases q
  | noio q e1 hc hi hb =>
    have R₃ : Rd h₃ r d tl ts (rem.drop 2) := R₃
    rw [e1] at R₃
    refine wpAny_execs_cons (wpAny_Expr_any (rneed_ B₃ R₃ T fun v h₄ tk₄ B₄ x4 R₄ => ?_))
    refine wpAny_execs_cons (wpAny_Expr_any (f1_ B₄ (gl_pass_configuration w) (kp_pass_configuration w) (n_ B₄ ⟨⟨_, B₄.F⟩, ?_⟩)))
    refine B₄.use (pass_conf_c B₄.G1 R₄ (T.keeps B₄.over) hc) fun v h₅ tk₅ B₅ x5 R₅ => ?_
    have D₅ := dicts_ext (dicts_ext D₃ x4 (nin1 hfdd)) x5 (nin1 hfdd)
    refine wpAny_execs_cons (wpAny_If (isTrue_plain (rskip_ ["INPUT-OUTPUT", "SECTION"] B₅ R₅ T fun h₆ tk₆ B₆ x6 R₆ => wpAny_truthy_bool ?_)))
    rw [hi]
    rw [after_f hi] at R₆
    exact wpAny_execs_nil (fin B₆ (by walk_at "LK") (by walk_at "LK") R₆ (dicts_ext D₅ x6 (nin1 hfdd)) .nil (by rw [hb]; rfl))
  | io q e1 hc hi e2 hf e3 hF hk e6 hb =>
    rename_i fb r1 r2 r3 r4 k r5
    have R₃ : Rd h₃ r d tl ts (rem.drop 2) := R₃
    rw [e1] at R₃
    refine wpAny_execs_cons (wpAny_Expr_any (rneed_ B₃ R₃ T fun v h₄ tk₄ B₄ x4 R₄ => ?_))
    refine wpAny_execs_cons (wpAny_Expr_any (f1_ B₄ (gl_pass_configuration w) (kp_pass_configuration w) (n_ B₄ ⟨⟨_, B₄.F⟩, ?_⟩)))
    refine B₄.use (pass_conf_c B₄.G1 R₄ (T.keeps B₄.over) hc) fun v h₅ tk₅ B₅ x5 R₅ => ?_
    have D₅ := dicts_ext (dicts_ext D₃ x4 (nin1 hfdd)) x5 (nin1 hfdd)
    refine wpAny_execs_cons (wpAny_If (isTrue_plain (rskip_ ["INPUT-OUTPUT", "SECTION"] B₅ R₅ T fun h₆ tk₆ B₆ x6 R₆ => wpAny_truthy_bool ?_)))
    rw [hi]
    rw [after_t hi] at R₆
    have R₆ : Rd h₆ r d tl ts (r2.drop 2) := R₆
    rw [e2] at R₆
    have D₆ := dicts_ext D₅ x6 (nin1 hfdd)
    refine wpAny_execs_cons (wpAny_Expr_any (rneed_ B₆ R₆ T fun v h₇ tk₇ B₇ x7 R₇ => ?_))
    refine wpAny_execs_cons (wpAny_Expr_any (rneedw_ ["FILE-CONTROL"] B₇ R₇ T hf fun v h₈ tk₈ B₈ x8 R₈ => ?_))
    have R₈ : Rd h₈ r d tl ts (r3.drop 1) := R₈
    rw [e3] at R₈
    refine wpAny_execs_cons (wpAny_Expr_any (rneed_ B₈ R₈ T fun v h₉ tk₉ B₉ x9 R₉ => ?_))
    have D₉ := dicts_ext (dicts_ext (dicts_ext D₆ x7 (nin1 hfdd)) x8 (nin1 hfdd)) x9 (nin1 hfdd)
    refine wpAny_execs_cons (wpAny_While (whileE_ (σ := s) (fun n h' => ∃ ls names rem kvs done Sr, Files fb n names rem Sr r5 ∧ Bd w [d] s h L hz h' ls ∧ (look ls "reader" = some (.ref r) ∧ look ls "found" = some (.ref fd)) ∧ Rd h' r d tl ts rem ∧
      DictS w h' fd kvs ∧ FoundIs h' fd kvs done ∧ done ++ Sr = Ss ∧ names = done.map (·.name) ∧ done.length + n ≤ 1000) k
      ⟨_, [], _, [], [], _, hF, B₉, ⟨by walk_at "LK", by walk_at "LK"⟩, R₉, D₉, .nil, rfl, rfl, by simpa using hk⟩ fun n h₁ tk₁ I => ?_))
    obtain ⟨ls, names, rem₁, kvs, done, Sr, hFi, B₁, ⟨l1, l2⟩, R₁, D₁, F₁, hdone, hnames, hlen⟩ := I
    refine isTrue_plain (risword_ ["SELECT"] B₁ R₁ T fun h₂ tk₂ B₂ x2 => wpAny_truthy_bool ?_)
    have R₂ := R₁.keeps x2.keeps
    have D₂ := dicts_ext D₁ x2 nil_not
    have F₂ := F₁.kp x2
    cases hFi with
    | done hs =>
      rw [hs]
      have hdone : done = Ss := by simpa using hdone
      subst hdone
      refine wpAny_execs_cons (wpAny_If (isTrue_plain (rskip_ ["I-O-CONTROL"] B₂ R₂ T fun h₃ tk₃ B₃ x3 R₃ => wpAny_truthy_bool ?_)))
      have D₃ := dicts_ext D₂ x3 (nin1 hfdd)
      have F₃ : FoundIs h₃ fd kvs done := F₂.ext x3 fun y m => one_mem m (⟨R₂.isDict, Nat.le_of_lt (Nat.lt_trans hdl hgL)⟩)
      cases hio : heads ["I-O-CONTROL"] r5 with
      | false =>
        rw [after_f hio] at R₃
        rw [hio] at e6
        have e6 : rem' = r5 := e6
        rw [← e6] at R₃
        exact wpAny_execs_nil (wpAny_execs_nil (fin B₃ l1 l2 R₃ D₃ F₃ hb))
      | true =>
        rw [after_t hio] at R₃
        rw [hio] at e6
        have e6 : rem' = untilP behindB (r5.drop 1) := e6
        have R₃ : Rd h₃ r d tl ts (r5.drop 1) := R₃
        refine wpAny_execs_cons (wpAny_While (while_ (σ := s) (fun n h' => ∃ rem, n = rem.length ∧ Bd w [d] s h L hz h' ls ∧ Rd h' r d tl ts rem ∧ DictS w h' fd kvs ∧ FoundIs h' fd kvs done ∧ untilP behindB rem = rem') _ ⟨_, rfl, B₃, R₃, D₃, F₃, e6.symm⟩ fun n h₄ tk₄ E' I => ?_))
        obtain ⟨rem₁, rfl, B₄, R₄, D₄, F₄, hu⟩ := I
        refine isTrue_not (isTrue_plain (f1_ B₄ (gl_is_behind w) (kp_is_behind w) (n_ B₄ ⟨⟨_, B₄.F⟩, ?_⟩)))
        refine B₄.use (is_behind_c B₄.G1 R₄ (T.keeps B₄.keep)) fun v h₅ tk₅ B₅ x5 p => ?_
        subst p
        have R₅ := R₄.keeps x5.keeps
        have D₅ := dicts_ext D₄ x5 nil_not
        have F₅ := F₄.kp x5
        refine wpAny_truthy_bool ?_
        cases hb1 : behindB rem₁ with
        | true =>
          have : untilP behindB rem₁ = rem₁ := by
            cases rem₁ with
            | nil => rfl
            | cons t rr => unfold untilP; rw [hb1]; rfl
          rw [this] at hu
          rw [hu] at R₅
          exact wpAny_execs_nil (wpAny_execs_nil (fin B₅ l1 l2 R₅ D₅ F₅ hb))
        | false =>
          cases rem₁ with
          | nil => cases hb1
          | cons t rr =>
            refine wpAny_execs_cons (wpAny_Expr_any (rm0_ B₅ R₅ (ms_Reader_take w) (take_c B₅.G1 R₅ (T.keeps B₅.over)) fun v h₇ tk₇ B₇ x7 p => ?_))
            refine wpAny_execs_nil ⟨by walk_at "SM", rr.length, Nat.lt_succ_self _, rr, rfl, B₇, p.2, dicts_ext D₅ x7 (nin1 hfdd), F₅.ext x7 (fun y m => one_mem m (⟨R₅.isDict, Nat.le_of_lt (Nat.lt_trans hdl hgL)⟩)), ?_⟩
            rw [← hu]
            show _ = if behindB (t :: rr) = true then t :: rr else untilP behindB rr
            rw [hb1]; rfl
    | @step _ rb k' n' _ _ nm rem2 S rem3 Sr' _ hs hn hr hn1 hb1 hb2 hrest =>
      rw [hs]
      refine cutK fun K2 hK2 => ?_
      have hL : ∀ y ∈ [L], isDict h₂ y ∧ y ≤ fd := fun y m => one_mem m (⟨B₂.isDict, Nat.le_of_lt hgL⟩)
      refine wpAny_execs_cons (as_name (rfault_ B₂ R₂ T hne fun pe h₃ tk₃ B₃ x3 hpe Gf3 => s_ B₃ fun h₄ tk₄ B₄ x4 => ?_))
      have R₄ := (R₂.keeps x3.keeps).ext x4 (nin1 hrL) (nin1 hdL)
      have D₄ := dicts_ext (dicts_ext D₂ x3 nil_not) x4 (nin1 hfdL)
      have F₄ := (F₂.kp x3).ext x4 (fun y m => one_mem m (⟨B₃.isDict, Nat.le_of_lt hgL⟩))
      obtain ⟨tok, rest, rfl⟩ : ∃ tok rest, rem₁ = tok :: rest := by
        cases rem₁ with
        | nil => cases hs
        | cons a b => exact ⟨a, b, rfl⟩
      refine wpAny_execs_cons (wpAny_Expr_any (rm0_ B₄ R₄ (ms_Reader_take w) (take_c B₄.G1 R₄ (T.keeps B₄.over)) fun v h₅ tk₅ B₅ x5 p => ?_))
      have R₅ := p.2
      have D₅ := dicts_ext D₄ x5 (nin1 hfdd)
      have F₅ := F₄.ext x5 (fun y m => one_mem m (⟨R₄.isDict, Nat.le_of_lt (Nat.lt_trans hdl hgL)⟩))
      refine wpAny_execs_cons (as_name (f1_ B₅ (gl_read_select w) (kp_read_select w) (n_ B₅ ⟨⟨_, B₅.F⟩, ?_⟩)))
      have g₅ : Ge h₅ pe := (Gf3.ge.ext x4 (one_dict B₃.isDict)).ext x5 (one_dict R₄.isDict)
      have hpe0 : h.objs.size ≤ pe := Nat.le_trans (Nat.le_of_lt (B.L0 ▸ B₂.Llt)) hpe
      refine B₅.useB (qn := "read_environment") (sc := s_167) (f := 167) (cd := .ref 166) (read_select_b B₅.G1 R₅ (T.keeps B₅.over) hne hn hr hn1) (fun v h₆ tk₆ B₆ x6 p => ?_) (fun hc => let ⟨outer, go⟩ := hEr (by rw [hb, hb1 hc]; rfl); ⟨outer, go.noted⟩)
      obtain ⟨hrb, sp, sd, rfl, hsp, hsd, R₆, P₆⟩ := p
      have g₆ : Ge h₆ pe := g₅.ext x6 (one_dict R₅.isDict)
      have D₆ := dicts_ext D₅ x6 (nin1 hfdd)
      have F₆ := F₅.ext x6 (fun y m => one_mem m (⟨R₅.isDict, Nat.le_of_lt (Nat.lt_trans hdl hgL)⟩))
      have hfs : fd < h₅.objs.size := by
        obtain ⟨o, es, ep, e, _⟩ := D₅
        exact Heap.lt_size e
      have hfsd : fd < sd := Nat.lt_of_lt_of_le hfs hsd
      refine s_ B₆ fun h₇ tk₇ B₇ x7 => ?_
      have R₇ := R₆.ext x7 (nin1 hrL) (nin1 hdL)
      have D₇ := dicts_ext D₆ x7 (nin1 hfdL)
      have P₇ := P₆.ext x7 (one_dict B₆.isDict) (nin1 (Nat.ne_of_gt (Nat.lt_trans hgL hfsd)))
      have F₇ := F₆.ext x7 (fun y m => one_mem m (⟨B₆.isDict, Nat.le_of_lt hgL⟩))
      have g₇ : Ge h₇ pe := g₆.ext x7 (one_dict B₆.isDict)
      obtain ⟨t1, t2, t3, t4, t5, t6, t7, al, rc, I₇, _⟩ := id P₇
      refine wpAny_execs_cons (wpAny_If (wpAny_isTrue_Compare1 (a_ B₇ (as_FileSpec_name w) I₇ (n_ B₇ ?_))))
      refine wpAny_in_of (strKind_is PR w S.name t1) hsm D₇.mapOf ?_
      refine wpAny_truthy_bool ?_
      cases hni : names.any (· == S.name) with
      | true =>
      rw [valueAt_some (by rw [F₁.names, ← hnames]; exact hni)]
      obtain ⟨outer, go⟩ := hEr (by rw [hb, hb2 hrb hni]; rfl)
      exact wpAny_execs_cons (raise_ go.noted (n_ B₇ ⟨pe, _, _, rfl, B₇, hpe0, g₇, ⟨rfl⟩⟩))
      | false =>
      have hva : valueAt kvs S.name = none := valueAt_none (by rw [F₁.names, ← hnames]; exact hni)
      rw [hva]
      refine wpAny_execs_nil ?_
      refine wpAny_execs_cons (wpAny_Assign_Subscript (n_ B₇ (n_ B₇ (a_ B₇ (as_FileSpec_name w) I₇ ?_))))
      refine wpAny_setItem_pairs (strKind_is PR w S.name t1) D₇ (fun h₈ D₈ hs8 => ?_) (by rw [F₁.length, sizeLine_eq]; omega)
      rw [stored_absent hva] at D₈
      have x8 : Ext [fd] h₇ h₈ := fun b o e n => (hs8.2 b fun q => n (q ▸ .head _)).trans e
      have B₈ := B₇.ext x8 (fun y m => one_mem m (.inr hgL))
      have hfD : ∀ y ∈ [fd], isDict h₇ y ∧ y ≤ fd := fun y m => one_mem m (⟨dicts_isDict D₇, Nat.le_refl _⟩)
      have R₈ := R₇.ext' x8 (fun y m => (hfD y m).1) (nin1 hfdd.symm)
      have P₈ := P₇.ext x8 (fun y m => (hfD y m).1) (nin1 (Nat.ne_of_gt hfsd))
      have F₈ := (F₇.ext x8 hfD).snoc P₈ hfsd
      refine wpAny_execs_nil (hK2 _ _ ⟨by walk_at "SM", k', Nat.lt_succ_self _, _, _, rem3, kvs ++ [(S.name, .ref sp)], done ++ [S], Sr', hrest hrb hni, B₈, ⟨by walk_at "LK", by walk_at "LK"⟩, R₈, D₈, F₈, by rw [← hdone]; simp, by rw [hnames]; simp, by rw [List.length_append]; simp; omega⟩)
noncomputable def litOf (x : Str) : Str := Txt.slice x (some 1) (some (-1))
/-- the token of a word -/
noncomputable def tokOf (x : Str) : Tk := if Txt.item x 0 == ("'" : Str) then ("literal", litOf x) else (if x == ("." : Str) then "sign" else "word", x)
theorem TKd.ext {h h' : Heap} {a d : Addr} {tok : Tk} {D : List Addr} (T : TKd h a d tok) (x : Ext D h h') (ha : a ∉ D) (hd : d ∉ D) : TKd h' a d tok := by
  obtain ⟨t1, t2, atv, b, I, e⟩ := T
  exact ⟨t1, t2, atv, b, I.ext x ha hd, e⟩
/-- tokens made above lo -/
noncomputable def TKs (h : Heap) (lo : Addr) (ts : List (Addr × Tk)) : Prop := ∀ p ∈ ts, ∃ d, lo < p.1 ∧ lo < d ∧ TKd h p.1 d p.2
theorem TKs.ext {h h' : Heap} {lo : Addr} {ts} {D : List Addr} (T : TKs h lo ts) (x : Ext D h h') (hD : ∀ y ∈ D, y ≤ lo) : TKs h' lo ts := fun p m => by
  obtain ⟨d, a, b, c⟩ := T p m
  exact ⟨d, a, b, c.ext x (fun m => Nat.lt_irrefl _ (Nat.lt_of_lt_of_le a (hD _ m))) (fun m => Nat.lt_irrefl _ (Nat.lt_of_lt_of_le b (hD _ m)))⟩
/-- x[i:j] of a text that stands at hand -/
theorem slice_ {w : World} {A : Around} {E : Value → Shared → Prop} {s σ : Shared} {D : List Addr} {h0 hz : Heap} {L : Addr} {ls : List (Str × Value)} {value slice : PySem.Expr} {x : Str} {t : Tok} {i j : Int} {ui uj : Tok} {Q : Value → Shared → Prop} (B : Bd w D σ h0 L hz s.heap ls)
    (h : ∀ h' t' tk', Bd w D σ h0 L hz h' ls → Ext [L] s.heap h' → Q (.str (Txt.slice x (some i) (some j)) t') (St σ h' tk')) (hsz : x.length ≤ 100000) (S : Same σ s := by walk_at "SM")
    (hs : subscripted slice false (.str x t) (.ref s.heap.objs.size) = operate [.ref s.heap.objs.size, .str x t] (getItem (.str x t) (.ref s.heap.objs.size)) := by with_unfolding_all rfl)
    (ht : ∀ r, letTemporaryGo value (.str x t) r = pure () := by intro _; with_unfolding_all rfl) :
    wpAny (Mw w) A (subscriptTail value slice (.str x t) (.ref s.heap.objs.size)) Q E { s with heap := s.heap.push { cls := .type "slice", data := .fields #[.int i ui, .int j uj, .none] } } := by
  refine slice_strN_ss B.FL (newsL _ _) (fun h' t' k F N => ?_) hs ht (by rw [sizeLine_eq]; omega)
  obtain ⟨B', x⟩ := B.back F N fun p m => m
  exact S.st h' k ▸ h h' t' k B' x
theorem law_tokens_c {w : World} {h : Heap} {text : Str} {t : Tok} {ws : List Str} (G : G1 w h) (hw : Txt.split text " " = ws) (hx : text.length ≤ 50000) (hn : ∀ x ∈ ws, 1 ≤ x.length ∧ x.length ≤ 1000) :
    Calls w 3 391 [.str text t] [] h (fun v h' => ∃ tl ts, v = .ref tl ∧ h.objs.size ≤ tl ∧ Toks h' tl ts ∧ ts.map (·.2) = ws.map tokOf) := by
  refine Calls.mk (fs__law_tokens w _) G nil_mem fun A s g tg hz L E ok B x0 => cutK fun K hK => ?_
  have hlen : ws.length ≤ 50002 := by rw [← hw]; exact Nat.le_trans (split_le text " ") (Nat.add_le_add_right hx 2)
  refine wpAny_execs_cons (as_name (wpAny_List (args_nil ⟨Nat.zero_le _, ?_⟩)))
  generalize hmo : ({ cls := .type "list", data := .seq ([] : List Value).toArray } : Obj) = mo
  have B₁ := B.push mo
  have hLm : L < g.objs.size := B.Llt
  refine s_ B₁ fun h₂ tk₂ B₂ x2 => ?_
  have M₂ : h₂.PlainList g.objs.size #[] := pl_ext ⟨0, by rw [Heap.get?_push_size _ (by rw [← hmo]; rfl), ← hmo]⟩ x2 (nin1 (Nat.ne_of_gt hLm))
  have hm0 : h.objs.size ≤ g.objs.size := Nat.le_of_lt (B.L0 ▸ hLm)
  generalize hml : g.objs.size = ml at *
  refine wpAny_execs_cons (wpAny_For (bm_ F.plainAttrs_str F.slot_str_split F.type_str_split (n_ B₂ ⟨typeIs_str _ _ _, fun _ e => (nomatch e), wpAny_Constant_str ?_⟩)))
  refine split_ B₂ (by decide +kernel) (by rw [sizeLine_eq]; omega) fun l h₃ tk₃ hl2 B₃ x3 hL3 => ?_
  refine wpAny_pyIter_list ⟨_, hL3, rfl, _, rfl⟩ ?_
  have M₃ := pl_ext M₂ x3 (nin1 (Nat.ne_of_gt hLm))
  have B₄ := B₃.push { cls := .type "list_iterator", data := .fields #[.ref h₂.objs.size, .int 0 0] }
  have hln : l.map (·.1) = ws := hl2.trans hw
  have hit : L < h₃.objs.size := B₃.Llt
  have hax : h₂.objs.size < h₃.objs.size := Heap.lt_size hL3
  have hLax : L < h₂.objs.size := B₂.Llt
  have hmlax : ml < h₂.objs.size := by obtain ⟨n, e⟩ := M₂; exact Heap.lt_size e
  have hmlit : ml < h₃.objs.size := Nat.lt_trans hmlax hax
  have M₄ : (h₃.push { cls := .type "list_iterator", data := .fields #[.ref h₂.objs.size, .int 0 0] }).PlainList ml #[] := pl_ext M₃ (Ext.push _ _) nil_not
  have it0 : ∀ y ∈ [h₃.objs.size], y ∈ ([] : List Addr) ∨ L < y := fun y m => one_mem m (.inr hit)
  refine for_list (items := (strValues l).toArray) (ax := h₂.objs.size) (s₀ := s) (fun i h' => ∃ ls ts, Bd w [] s h L hz h' ls ∧ look ls "found" = some (.ref ml) ∧ h'.PlainList ml (ts.map fun p => Value.ref p.1).toArray ∧ TKs h' h₃.objs.size ts ∧ ts.map (·.2) = (ws.take i).map tokOf ∧ (∀ p ∈ ts, p.2.2.length ≤ 1000) ∧
    h'.IsListIter h₃.objs.size h₂.objs.size i ∧ h'.get? h₂.objs.size = some { cls := .type "list", data := .seq (strValues l).toArray }) ok.hd
    ⟨_, [], B₄, by walk_at "LK", M₄, nil_mem, rfl, nil_mem, ⟨_, Heap.get?_push_size _ rfl, rfl, rfl⟩, Heap.get?_push_of_some _ hL3⟩ fun i h₅ tk₅ P => ?_
  obtain ⟨ls, ts, B₅, hlk, M₅, T₅, hts, hsh, hI, hL5⟩ := P
  have hlts : ts.length ≤ 50002 := by
    have := congrArg List.length hts
    simp only [List.length_map, List.length_take] at this
    omega
  refine ⟨hI, ⟨_, hL5, rfl, _, rfl⟩, fun hi h₆ x6 => ?_, fun v E' hv h₆ x6 hI' => ?_⟩
  · have B₆ := B₅.ext x6 it0
    have M₆ := pl_ext M₅ x6 (nin1 (Nat.ne_of_lt hmlit))
    have T₆ := T₅.ext x6 (fun y m => one_mem m (Nat.le_refl _))
    refine wpAny_execs_cons (wpAny_Return_some (n_ B₆ (hK _ _ ⟨B₆.x, ⟨ml, ts, rfl, hm0, ⟨?_, by omega, M₆, fun p m => ?_, hsh⟩, ?_⟩, by walk_at "SM"⟩)))
    · exact Nat.le_trans G.size hm0
    · obtain ⟨d, _, _, k⟩ := T₆ p m
      exact ⟨d, k⟩
    · rw [hts, List.take_of_length_le (by rw [← hln]; simpa [strValues] using hi)]
  · have B₆ := B₅.ext x6 it0
    have M₆ := pl_ext M₅ x6 (nin1 (Nat.ne_of_lt hmlit))
    have T₆ := T₅.ext x6 (fun y m => one_mem m (Nat.le_refl _))
    have hL6 := x6 _ _ hL5 (nin1 (Nat.ne_of_lt hax))
    obtain ⟨q, hq, rfl⟩ := strs_get hv
    have hwi : ws[i]? = some q.1 := by rw [← hln, List.getElem?_map, hq]; rfl
    obtain ⟨hq1, hq2⟩ := hn q.1 (List.mem_of_getElem? hwi)
    have htake : (ws.take (i + 1)).map tokOf = (ws.take i).map tokOf ++ [tokOf q.1] := by
      rw [List.take_add_one, hwi, List.map_append]; rfl
    have leL : ∀ y ∈ [L], y ≤ h₃.objs.size := fun y m => one_mem m (Nat.le_of_lt hit)
    refine s_ B₆ fun h₇ tk₇ B₇ x7 => ?_
    have M₇ := pl_ext M₆ x7 (nin1 (Nat.ne_of_gt hLm))
    have T₇ := T₆.ext x7 leL
    have hL7 := x7 _ _ hL6 (nin1 (Nat.ne_of_gt hLax))
    have hI7 := isIter_ext x7 (nin1 (Nat.ne_of_gt hit)) hI'
    refine wpAny_execs_cons (wpAny_If (wpAny_isTrue_Compare1 (Subscript_ (n_ B₇ (wpAny_Constant_int (item_str (x := q.1) (t := q.2) (by decide) (by omega) (by omega) fun _ => ?_))))))
    refine wpAny_Constant_str (eq_str (wpAny_truthy_bool ?_))
    cases hlit : (Txt.item q.1 0 == ("'" : Str)) with
    | true =>
      have htok : tokOf q.1 = ((("literal" : Str), litOf q.1) : Tk) := by unfold tokOf; rw [hlit]; rfl
      have hll : (litOf q.1).length ≤ 1000 := Nat.le_trans (PyProof.Txt.length_slice_le _ _ _) hq2
      refine wpAny_execs_cons (wpAny_Expr_any (bm_ PySem.F.plainAttrs_list PySem.F.slot_list_append PySem.F.type_list_append (n_ B₇ ⟨(pl_isList M₇).typeIs, fun a e => ?_, ?_⟩)))
      · obtain ⟨n, e'⟩ := M₇; cases e; exact ⟨_, e', rfl⟩
      refine f2_ B₇ (gl_Token w) (kc_Token w) (wpAny_Constant_str (Subscript_ (n_ B₇ (wpAny_Slice (evalPart_some_step (wpAny_Constant_int (evalPart_some_step (wpAny_UnaryOp (wpAny_Constant_int (PyProof.Rows.neg_int (evalPart_none_step ?_)))))))))))
      refine slice_ (s := St s h₇ _) B₇ (fun h₈ t' tk₈ B₈ x8 => ⟨⟨_, B₈.F⟩, ?_⟩) (by omega)
      refine make_ (post := fun x dx h' => TKd h' x dx ("literal", litOf q.1)) B₈ (mk_Token w) (in_Token w) (ft_Token w) (fun x dx h' G' x' I => token_init_c G' I) fun x dx h₉ tk₉ B₉ x9 hdx hxx p => ?_
      have M₉ := pl_ext (pl_ext M₇ x8 (nin1 (Nat.ne_of_gt hLm))) x9 nil_not
      have T₉ := (T₇.ext x8 leL).ext x9 nil_mem
      have hL9 := x9 _ _ (x8 _ _ hL7 (nin1 (Nat.ne_of_gt hLax))) nil_not
      have hI9 := isIter_ext x9 nil_not (isIter_ext x8 (nin1 (Nat.ne_of_gt hit)) hI7)
      have hits : h₃.objs.size < h₈.objs.size := by
        obtain ⟨o, e, _⟩ := isIter_ext x8 (nin1 (Nat.ne_of_gt hit)) hI7; exact Heap.lt_size e
      refine app_ B₉ M₉ (.inr hLm) (by simp; omega) fun h' tk' B' x' M' => ?_
      have lem : ∀ y ∈ [ml], y ≤ h₃.objs.size := fun y m => one_mem m (Nat.le_of_lt hmlit)
      have Tn : TKs h₉ h₃.objs.size (ts ++ [(x, tokOf q.1)]) := fun p' m => by
        rcases List.mem_append.mp m with m | m
        · exact T₉ p' m
        · rcases List.mem_cons.mp m with rfl | m
          · exact ⟨dx, Nat.lt_of_lt_of_le hits hxx, Nat.lt_of_lt_of_le hits hdx, htok ▸ p⟩
          · cases m
      refine wpAny_execs_nil (wpAny_execs_nil ⟨by walk_at "SM", _, ts ++ [(x, tokOf q.1)], B', by walk_at "LK", ?_, Tn.ext x' lem, ?_, ?_, isIter_ext x' (nin1 (Nat.ne_of_gt hmlit)) hI9, x' _ _ hL9 (nin1 (Nat.ne_of_gt hmlax))⟩)
      · simpa using M'
      · rw [htake, List.map_append, hts]; rfl
      · intro p' m
        rcases List.mem_append.mp m with m | m
        · exact hsh p' m
        · rcases List.mem_cons.mp m with rfl | m
          · rw [htok]; exact hll
          · cases m
    | false =>
      have htok : tokOf q.1 = (((if q.1 == ("." : Str) then "sign" else "word" : Str), q.1) : Tk) := by unfold tokOf; rw [hlit]; rfl
      refine wpAny_execs_cons (wpAny_Expr_any (bm_ PySem.F.plainAttrs_list PySem.F.slot_list_append PySem.F.type_list_append (n_ B₇ ⟨(pl_isList M₇).typeIs, fun a e => ?_, ?_⟩)))
      · obtain ⟨n, e'⟩ := M₇; cases e; exact ⟨_, e', rfl⟩
      refine f2_ B₇ (gl_Token w) (kc_Token w) (mono_q (fun v s' => ∃ t' tk', v = .str (if q.1 == ("." : Str) then "sign" else "word") t' ∧ s' = St s h₇ tk') ?_ ?_)
      · refine wpAny_IfExp (wpAny_isTrue_Compare1 (n_ B₇ (wpAny_Constant_str (eq_str (wpAny_truthy_bool ?_)))))
        cases hd : (q.1 == ("." : Str)) with
        | true => exact wpAny_Constant_str ⟨_, _, rfl, rfl⟩
        | false => exact wpAny_Constant_str ⟨_, _, rfl, rfl⟩
      rintro v s' ⟨t', tk', rfl, rfl⟩
      refine n_ B₇ ⟨⟨_, B₇.F⟩, ?_⟩
      refine make_ (post := fun x dx h' => TKd h' x dx (if q.1 == ("." : Str) then "sign" else "word", q.1)) B₇ (mk_Token w) (in_Token w) (ft_Token w) (fun x dx h' G' x' I => token_init_c G' I) fun x dx h₉ tk₉ B₉ x9 hdx hxx p => ?_
      have M₉ := pl_ext M₇ x9 nil_not
      have T₉ := T₇.ext x9 nil_mem
      have hL9 := x9 _ _ hL7 nil_not
      have hI9 := isIter_ext x9 nil_not hI7
      have hits : h₃.objs.size < h₇.objs.size := by
        obtain ⟨o, e, _⟩ := hI7; exact Heap.lt_size e
      refine app_ B₉ M₉ (.inr hLm) (by simp; omega) fun h' tk' B' x' M' => ?_
      have lem : ∀ y ∈ [ml], y ≤ h₃.objs.size := fun y m => one_mem m (Nat.le_of_lt hmlit)
      have Tn : TKs h₉ h₃.objs.size (ts ++ [(x, tokOf q.1)]) := fun p' m => by
        rcases List.mem_append.mp m with m | m
        · exact T₉ p' m
        · rcases List.mem_cons.mp m with rfl | m
          · exact ⟨dx, Nat.lt_of_lt_of_le hits hxx, Nat.lt_of_lt_of_le hits hdx, htok ▸ p⟩
          · cases m
      refine wpAny_execs_nil (wpAny_execs_nil ⟨by walk_at "SM", _, ts ++ [(x, tokOf q.1)], B', by walk_at "LK", ?_, Tn.ext x' lem, ?_, ?_, isIter_ext x' (nin1 (Nat.ne_of_gt hmlit)) hI9, x' _ _ hL9 (nin1 (Nat.ne_of_gt hmlax))⟩)
      · simpa using M'
      · rw [htake, List.map_append, hts]; rfl
      · intro p' m
        rcases List.mem_append.mp m with m | m
        · exact hsh p' m
        · rcases List.mem_cons.mp m with rfl | m
          · rw [htok]; exact hq2
          · cases m
/-- the tape: the cells, and where it stands -/
noncomputable def Tape (h : Heap) (tp : Addr) (at' : Nat) : Prop := ∃ (cl : Addr) (t : Tok) (items : Array Value), h.IsList tp #[Value.ref cl, Value.int (at' : Int) t] ∧ h.IsList cl items ∧ 1 ≤ items.size ∧ items.size ≤ 50 ∧ (∀ (i : Nat) (v : Value), items[i]? = some v → ∃ k u, v = Value.int k u) ∧ cl < tp ∧ 409 ≤ tp
theorem Tape.lt {h : Heap} {tp k} (T : Tape h tp k) : 409 ≤ tp ∧ tp < h.objs.size := by
  obtain ⟨_, _, _, ⟨n, e, _⟩, _, _, _, _, _, a⟩ := T; exact ⟨a, Heap.lt_size e⟩
theorem il_dict {h : Heap} {l : Addr} {items : Array Value} (P : h.IsList l items) {D : List Addr} (hD : ∀ d ∈ D, isDict h d) : l ∉ D := fun m => by
  obtain ⟨o, es, n, e, q⟩ := hD l m
  obtain ⟨o', e', _, k, q'⟩ := P
  rw [e'] at e; cases e
  rw [q'] at q; cases q
theorem il_ext {h h' : Heap} {D : List Addr} {l : Addr} {items : Array Value} (P : h.IsList l items) (x : Ext D h h') (n : l ∉ D) : h'.IsList l items := let ⟨o, e, r⟩ := P; ⟨o, x _ _ e n, r⟩
theorem Tape.ext {h h' : Heap} {D : List Addr} {tp k} (T : Tape h tp k) (x : Ext D h h') (hD : ∀ d ∈ D, isDict h d) : Tape h' tp k := by
  obtain ⟨cl, t, items, a, b, c⟩ := T
  exact ⟨cl, t, items, il_ext a x (il_dict a hD), il_ext b x (il_dict b hD), c⟩
theorem Tape.keeps {h h' : Heap} {tp k} (T : Tape h tp k) (x : Ext [] h h') : Tape h' tp k := T.ext x fun _ m => nomatch m
theorem unpackItems_list2 {w : World} {A : Around} {E : Value → Shared → Prop} {s : Shared} {l : Addr} {a b : Value} {Q : List Value → Shared → Prop} (hh : A.handled = none) (hl : s.heap.IsList l #[a, b])
    (hQ : ∀ h', Ext [] s.heap h' → Q [a, b] { s with heap := h' }) : wpAny (Mw w) A (unpackItems (.ref l) 2 none) Q E s := by
  have hlt : l ≠ s.heap.objs.size := by obtain ⟨o, ho, _⟩ := hl; exact Nat.ne_of_lt (Heap.lt_size ho)
  unfold unpackItems
  refine wpAny_bind ?_
  unfold notIterableAtAll
  refine wpAny_bind (wpAny_specialOf hl.typeIs slot_list_iter.lookup ?_)
  refine wpAny_pure ?_
  simp only [Bool.false_eq_true, if_false]
  refine wpAny_bind (wpAny_holding (wpAny_pyIter_list hl ?_))
  have hl0 : (s.heap.push { cls := .type "list_iterator", data := .fields #[.ref l, .int 0 0] }).IsList l #[a, b] := let ⟨o, e, r⟩ := hl; ⟨o, Heap.get?_push_of_some _ e, r⟩
  refine wpAny_bind (wpAny_holding ?_)
  show wpAny _ _ (pyNext (.ref s.heap.objs.size) >>= _) _ _ _
  refine wpAny_bind (wpAny_pyNext_list_item (i := 0) ⟨_, Heap.get?_push_size _ rfl, rfl, rfl⟩ hl0 (x := a) rfl fun h₁ hit₁ hs₁ => ?_)
  have hl1 : h₁.IsList l #[a, b] := hl0.extBut hs₁.extBut hlt
  refine wpAny_bind (wpAny_holding ?_)
  show wpAny _ _ (pyNext (.ref s.heap.objs.size) >>= _) _ _ _
  refine wpAny_bind (wpAny_pyNext_list_item hit₁ hl1 (x := b) rfl fun h₂ hit₂ hs₂ => ?_)
  have hl2 : h₂.IsList l #[a, b] := hl1.extBut hs₂.extBut hlt
  refine wpAny_bind (wpAny_holding ?_)
  show wpAny _ _ (pure []) _ _ _
  refine wpAny_pure (wpAny_pure (wpAny_pure ?_))
  rw [if_neg (by simp)]
  refine wpAny_bind (wpAny_holding (wpAny_pyNext_list_end hh hit₂ hl2 rfl fun h₃ he₃ => ?_))
  simp only [Option.isSome_none, Bool.false_eq_true, if_false]
  refine wpAny_pure (hQ h₃ fun b o e _ => ?_)
  have hb : b ≠ s.heap.objs.size := Nat.ne_of_lt (Heap.lt_size e)
  exact he₃ b o hb (hs₂.extBut b o hb (hs₁.extBut b o hb (Heap.get?_push_of_some _ e)))
theorem bits_small {a : Int} (h0 : 0 ≤ a) (h : a ≤ 100000) : Builtin.Int.intBits a ≤ 64 := by
  unfold Builtin.Int.intBits
  split
  · exact Nat.zero_le _
  · rename_i n
    have hn : a.natAbs ≠ 0 := by intro e; apply n; rw [beq_iff_eq]; omega
    have : a.natAbs.log2 < 17 := (Nat.log2_lt hn).mpr (by omega)
    omega
/-- a value reckoned, the heap as it stands -/
theorem cutv {M : Model} {A : Around} {E : Value → Shared → Prop} {s σ : Shared} {g : Heap} {m : Sem Value} {Q : Value → Shared → Prop} (X : Value → Prop)
    (h1 : wpAny M A m (fun v s' => X v ∧ ∃ tk, s' = St σ g tk) E s) (h2 : ∀ v tk, X v → Q v (St σ g tk)) : wpAny M A m Q E s :=
  wpAny_mono h1 (fun v s' ⟨x, tk, e⟩ => e ▸ h2 v tk x) fun _ _ x => x
theorem fmod_in {a m : Int} (h : 0 < m) : 0 ≤ a.fmod m ∧ a.fmod m < m := ⟨Int.fmod_nonneg_of_pos a h, Int.fmod_lt_of_pos a h⟩
theorem law_draw_c {w : World} {h : Heap} {tp : Addr} {k : Nat} {m : Int} {u : Tok} (G : G1 w h) (T : Tape h tp k) (hk : k ≤ 100000) (hm : 0 < m) :
    Calls w 2 384 [.ref tp, .int m u] [tp] h (fun v h' => (∃ i t, v = .int i t ∧ 0 ≤ i ∧ i < m) ∧ Tape h' tp (k + 1)) := by
  refine Calls.mk (fs__law_draw w _ _) G (fun d m => one_mem m (T.lt)) fun A s g tg hz L E ok B x0 => cutK fun K hK => ?_
  have htL : tp ≠ L := Nat.ne_of_lt (B.L0 ▸ T.lt.2)
  obtain ⟨cl, t, items, P, C, hi1, hi2, hint, hct, h4⟩ := T.keeps x0
  have hcL : cl ≠ L := fun q => il_dict C (one_dict B.isDict) (q ▸ .head _)
  refine wpAny_execs_cons (Assign_Tuple (n_ B ?_))
  rw [assign_Tuple]
  refine wpAny_bind (wpAny_standAt ?_)
  unfold unpack
  refine wpAny_bind (wpAny_holding ?_)
  show wpAny _ _ (unpackItems (.ref tp) 2 none) _ _ _
  refine unpackItems_list2 ok.hd P fun h₂ x2 => ?_
  have B₂ := B.ext x2 nil_mem
  have P₂ := il_ext P x2 nil_not
  have C₂ := il_ext C x2 nil_not
  refine assignInOrder_cons (PyProof.Rows.assign_Name (s_ B₂ fun h₃ tk₃ B₃ x3 => ?_))
  have P₃ := il_ext P₂ x3 (nin1 htL)
  have C₃ := il_ext C₂ x3 (nin1 hcL)
  refine assignInOrder_cons (PyProof.Rows.assign_Name (s_ B₃ fun h₄ tk₄ B₄ x4 => assignInOrder_nil ?_))
  have P₄ := il_ext P₃ x4 (nin1 htL)
  have C₄ := il_ext C₃ x4 (nin1 hcL)
  refine wpAny_execs_cons (wpAny_Assign_Subscript (wpAny_BinOp (n_ B₄ (wpAny_Constant_int (add_int (n_ B₄ (wpAny_Constant_int ?_)))))))
  refine wpAny_setItem_list P₄ (by decide) (by decide) (by show (1 : Int) < 2; decide) fun h₅ hl₅ hs₅ => ?_
  have x5 : Ext [tp] h₄ h₅ := fun b o e n => (hs₅.2 b fun q => n (q ▸ .head _)).trans e
  have B₅ := B₄.ext x5
  obtain ⟨t5, P₅⟩ : ∃ t5, h₅.IsList tp #[Value.ref cl, Value.int ((k : Int) + 1) t5] := ⟨_, hl₅⟩
  have C₅ := il_ext C₄ x5 (nin1 (Nat.ne_of_lt hct))
  have fin : ∀ {h' tk' i t' ls}, Bd w [tp] s h L hz h' ls → h'.IsList tp #[Value.ref cl, Value.int ((k : Int) + 1) t5] → h'.IsList cl items → 0 ≤ i → i < m → K (.ret (.int i t')) (St s h' tk') := fun B' P' C' h1 h2 =>
    hK _ _ ⟨B'.x, ⟨⟨_, _, rfl, h1, h2⟩, cl, t5, items, by rw [Int.natCast_add]; exact P', C', hi1, hi2, hint, hct, h4⟩, by walk_at "SM"⟩
  have hsz : (0 : Int) < (items.size : Int) := by omega
  refine wpAny_execs_cons (wpAny_Return_some (wpAny_BinOp (wpAny_BinOp (cutv (σ := s) (g := h₅) (fun v => ∃ i u, v = Value.int i u) ?_ ?_))))
  · refine Subscript_ (n_ B₅ (wpAny_BinOp (n_ B₅ (Call_ (b_ B₅ (gn_len w) (PyProof.Rows.callWith_builtin1 (args_cons (n_ B₅ (args_nil (call_len_list C₅ (by omega) ?_))))))))))
    refine mod_int' (by omega) ?_
    obtain ⟨f1, f2⟩ := fmod_in (a := (k : Int)) hsz
    obtain ⟨v, hv⟩ : ∃ v, items[((k : Int).fmod (items.size : Int)).toNat]? = some v := ⟨_, Array.getElem?_eq_getElem (by omega)⟩
    obtain ⟨i0, u0, rfl⟩ := hint _ _ hv
    exact tail_any C₅.typeIs slot_list_getitem.lookup (wpAny_getItem_list C₅ f1 (by omega) (x := .int i0 u0) hv ⟨⟨_, _, rfl⟩, _, rfl⟩) (by with_unfolding_all rfl)
  rintro v tk₆ ⟨i0, u0, rfl⟩
  refine wpAny_BinOp (cutv (σ := s) (g := h₅) (fun v => ∃ i u, v = Value.int i u ∧ Builtin.Int.intBits i ≤ 64) ?_ ?_)
  · refine wpAny_BinOp (n_ B₅ (Call_ (b_ B₅ (gn_len w) (PyProof.Rows.callWith_builtin1 (args_cons (n_ B₅ (args_nil (call_len_list C₅ (by omega) ?_))))))))
    refine floordiv_int (by omega) ⟨⟨_, _, rfl, bits_small ?_ ?_⟩, _, rfl⟩ (Or.inl (PyProof.noPylong_small (by omega)))
    · rw [Int.fdiv_eq_ediv_of_nonneg _ (by omega)]; exact Int.ediv_nonneg (by omega) (by omega)
    · rw [Int.fdiv_eq_ediv_of_nonneg _ (by omega)]; exact Int.le_trans (Int.ediv_le_self _ (by omega)) (by omega)
  rintro v tk₇ ⟨i1, u1, rfl, hb⟩
  refine cutv (σ := s) (g := h₅) (fun v => ∃ i u, v = Value.int i u) ?_ ?_
  · refine wpAny_BinOp (wpAny_BinOp (wpAny_BinOp (wpAny_Constant_int (n_ B₅ (PyProof.Rows.mul_int ?_ (IntMulOk.of_left (by decide +kernel)))))))
    refine wpAny_Constant_int (add_int (cutv (σ := s) (g := h₅) (fun v => ∃ i u, v = Value.int i u) ?_ ?_))
    · exact wpAny_BinOp (n_ B₅ (wpAny_Constant_int (floordiv_int (by decide) ⟨⟨_, _, rfl⟩, _, rfl⟩ (Or.inl (PyProof.noPylong_small (by decide))))))
    · rintro v tk₈ ⟨i2, u2, rfl⟩
      exact add_int ⟨⟨_, _, rfl⟩, _, rfl⟩
  rintro v tk₈ ⟨i2, u2, rfl⟩
  refine PyProof.Rows.mul_int ?_ (IntMulOk.of_left hb)
  refine add_int (n_ B₅ (v := .int m u) (mod_int' (by omega) ?_))
  obtain ⟨g1, g2⟩ := fmod_in (a := i0 + i1 * i2) hm
  exact fin B₅ P₅ C₅ g1 g2
noncomputable abbrev cds (x : Str) : List Nat := x.cps.toList
theorem cds_append (x y : Str) : cds (x ++ y) = cds x ++ cds y := by
  obtain ⟨a⟩ := x
  obtain ⟨b⟩ := y
  show (a ++ b).toList = _
  simp
theorem cds_inj {x y : Str} (h : cds x = cds y) : x = y := by
  obtain ⟨a⟩ := x
  obtain ⟨b⟩ := y
  have : a = b := Array.toList_inj.mp h
  rw [this]
/-- lists of codes with a space between -/
noncomputable def jn : List (List Nat) → List Nat
  | [] => []
  | [x] => x
  | x :: y :: r => x ++ 32 :: jn (y :: r)
theorem jn_cons {l : List (List Nat)} (x : List Nat) (h : l ≠ []) : jn (x :: l) = x ++ 32 :: jn l := by
  cases l with
  | nil => exact absurd rfl h
  | cons y r => rfl
theorem cut32 : ∀ {x y r r' : List Nat}, 32 ∉ x → 32 ∉ y → x ++ 32 :: r = y ++ 32 :: r' → x = y ∧ r = r'
  | [], [], r, r', _, _, h => ⟨rfl, (List.cons.inj h).2⟩
  | [], b :: y, r, r', _, hy, h => absurd (by have := (List.cons.inj h).1; rw [this]; exact .head _) hy
  | a :: x, [], r, r', hx, _, h => absurd (by have := (List.cons.inj h).1; rw [← this]; exact .head _) hx
  | a :: x, b :: y, r, r', hx, hy, h => by
    obtain ⟨e1, e2⟩ := List.cons.inj h
    obtain ⟨a1, a2⟩ := cut32 (fun m => hx (.tail _ m)) (fun m => hy (.tail _ m)) e2
    exact ⟨by rw [e1, a1], a2⟩
theorem jn_uniq : ∀ {l l' : List (List Nat)}, l ≠ [] → l' ≠ [] → (∀ x ∈ l, 32 ∉ x) → (∀ x ∈ l', 32 ∉ x) → jn l = jn l' → l = l'
  | [], _, h, _, _, _, _ => absurd rfl h
  | _, [], _, h, _, _, _ => absurd rfl h
  | [x], [y], _, _, _, _, h => by have h : x = y := h; rw [h]
  | [x], y :: z :: r, _, _, hx, _, h => absurd (by have h : x = y ++ 32 :: jn (z :: r) := h; rw [h]; simp) (hx x (.head _))
  | x :: z :: r, [y], _, _, _, hy, h => absurd (by have h : x ++ 32 :: jn (z :: r) = y := h; rw [← h]; simp) (hy y (.head _))
  | x :: x' :: r, y :: y' :: r', _, _, hx, hy, h => by
    obtain ⟨a, b⟩ := cut32 (hx x (.head _)) (hy y (.head _)) h
    rw [a, jn_uniq (l := x' :: r) (l' := y' :: r') (by simp) (by simp) (fun z m => hx z (.tail _ m)) (fun z m => hy z (.tail _ m)) b]
theorem join_cds : ∀ l : List Str, cds (Str.join " " l) = jn (l.map cds)
  | [] => rfl
  | [x] => rfl
  | x :: y :: r => by
    show cds (x ++ (" " : Str) ++ Str.join " " (y :: r)) = _
    rw [cds_append, cds_append, join_cds (y :: r), List.append_assoc]
    rfl
/-- t is the words ws, a space behind each -/
noncomputable def W (t : Str) (ws : List Str) : Prop := cds t = ws.flatMap fun x => cds x ++ [32]
/-- t is the words ws, a space between -/
noncomputable def J (t : Str) (ws : List Str) : Prop := ws ≠ [] ∧ cds t = jn (ws.map cds)
theorem W.nil : W "" [] := rfl
theorem W.app {t u ws vs} (a : W t ws) (b : W u vs) : W (t ++ u) (ws ++ vs) := by
  unfold W at *
  rw [cds_append, a, b, List.flatMap_append]
theorem W.fin {t u ws vs} (a : W t ws) (b : J u vs) : J (t ++ u) (ws ++ vs) := by
  obtain ⟨hn, b⟩ := b
  refine ⟨by simp [hn], ?_⟩
  rw [cds_append, show cds t = _ from a, b]
  clear a
  induction ws with
  | nil => rfl
  | cons x r ih =>
    rw [List.flatMap_cons, List.cons_append, List.map_cons, jn_cons _ (by simp [hn]), ← ih]
    simp
theorem J.w {t ws} (a : J t ws) : W (t ++ " ") ws := by
  obtain ⟨hn, a⟩ := a
  unfold W
  rw [cds_append, a]
  clear a
  induction ws with
  | nil => exact absurd rfl hn
  | cons x r ih =>
    rw [List.map_cons, List.flatMap_cons]
    by_cases hr : r = []
    · subst hr
      show cds x ++ [32] = (cds x ++ [32]) ++ []
      rw [List.append_nil]
    · rw [jn_cons _ (by simp [hr]), ← ih hr, List.append_assoc]
      simp
theorem jn_append {l l' : List (List Nat)} (h : l ≠ []) (h' : l' ≠ []) : jn (l ++ l') = jn l ++ 32 :: jn l' := by
  induction l with
  | nil => exact absurd rfl h
  | cons x r ih =>
    by_cases hr : r = []
    · subst hr; rw [List.singleton_append, jn_cons _ h']; rfl
    · rw [List.cons_append, jn_cons _ (by simp [hr]), jn_cons _ hr, ih hr]; simp
theorem J.join : ∀ {l : List (Str × List Str)}, l ≠ [] → (∀ p ∈ l, J p.1 p.2) → J (Str.join " " (l.map (·.1))) (l.flatMap (·.2))
  | [], h, _ => absurd rfl h
  | [p], _, h => by
    have := h p (.head _)
    rw [List.flatMap_cons, List.flatMap_nil, List.append_nil]
    exact this
  | p :: q :: r, _, h => by
    obtain ⟨n1, e1⟩ := h p (.head _)
    obtain ⟨n2, e2⟩ := J.join (l := q :: r) (by simp) fun z m => h z (.tail _ m)
    refine ⟨by rw [List.flatMap_cons]; simp [n1], ?_⟩
    generalize hl : q :: r = l at *
    have hl0 : l ≠ [] := by rw [← hl]; simp
    rw [join_cds, List.map_cons, List.map_cons, jn_cons _ (by simp [hl0]), ← join_cds, e2, e1, List.flatMap_cons, List.map_append, jn_append (by rw [ne_eq, List.map_eq_nil_iff]; exact n1) (by rw [ne_eq, List.map_eq_nil_iff]; exact n2)]
theorem split_J {t : Str} {ws : List Str} (a : J t ws) (h : ∀ x ∈ ws, 32 ∉ cds x) : Txt.split t " " = ws := by
  obtain ⟨hn, a⟩ := a
  have hs := StrLaws.join_split t " "
  have hf := StrLaws.split_free t 32
  have hp := PyProof.Rows.split_pos t " "
  rw [← hs, join_cds] at a
  have := jn_uniq (by intro e; rw [List.map_eq_nil_iff] at e; rw [e] at hp; cases hp) (by simpa using hn) (fun x m => by obtain ⟨p, hp, rfl⟩ := List.mem_map.mp m; exact hf p hp) (fun x m => by obtain ⟨p, hp, rfl⟩ := List.mem_map.mp m; exact h p hp) a
  exact (List.map_inj_right fun x y e => cds_inj e).mp this
/-- raised and held, its flight at rest or not -/
structure Land (D : List Addr) (outer : List Env) (h0 : Heap) (env : Env) (e : Addr) (h' : Heap) : Prop where
  stays : (Bs h0 D outer).StaysIn h'
  fr : h'.FunFrames (Bs h0 D outer) (env :: outer)
  tr : ∃ a0 fl, Heap.TracedAtW h' (Bs h0 D outer) e GF a0 fl
  sl : SlK (frs outer) h0 h'
theorem Held.land {D outer h0 env e h'} (H : Held D outer h0 env e h') : Land D outer h0 env e h' := ⟨H.stays, H.fr, let ⟨a, L, e, t⟩ := H.tr; ⟨a, _, t⟩, H.sl⟩
theorem land_flight {w : World} {A : Around} {E : Value → Shared → Prop} {s : Shared} {D : List Addr} {outer : List Env} {h0 : Heap} {env : Env} {e : Addr} {Q : Unit → Shared → Prop} (H : Land D outer h0 env e s.heap) (h : ∀ h', Land D outer h0 env e h' → Q () { s with heap := h' }) :
    wpAny (Mw w) A (setFlight (.ref e) none) Q E s := by
  obtain ⟨h1, h3, ⟨a0, fl, tr⟩, h5⟩ := H
  exact wpAny_setFlight_noneW h1 h3 tr fun h'' k1 k2 k3 k4 => h h'' ⟨k1, k2, ⟨a0, _, k3⟩, h5.trans ((frs_obj h3 fun b o hb hn => ⟨o.slots, k4 b o hb hn⟩).sub (frs_cons h3))⟩
theorem except_GF {w : World} {A : Around} {E : Value → Shared → Prop} {s σ : Shared} {D : List Addr} {outer : List Env} {h0 : Heap} {qn : Str} {sc : Scope} {L f e : Addr} {cd : Value} {np pos : Pos} {b₀ : Stmt} {suite : List Stmt} {Q : Flow → Shared → Prop} (G : G1 w (Bs h0 D outer)) (S : Glo sc "GrammarFault")
    (st : A.frames = some (envOf qn sc L f cd :: outer)) (H : Hot D outer h0 (envOf qn sc L f cd) e s.heap)
    (h : ∀ h' E', Land D outer h0 (envOf qn sc L f cd) e h' → wpAny (Mw w) (A.mark (some (.ref e))) (execs (b₀ :: suite) (envOf qn sc L f cd)) Q E' (St σ h' s.toks)) (S0 : Same σ s := by walk_at "SM") :
    wpAny (Mw w) A (noteFrame (.ref e) (envOf qn sc L f cd)) (fun _ s₂ => wpAny (Mw w) A (setFlight (.ref e) none) (fun _ s₃ => wpAny (Mw w) A (handleBy (.ref e) (envOf qn sc L f cd) [.ExceptHandler (some (.Name "GrammarFault" np)) none (b₀ :: suite) pos]) Q E s₃) E s₂) E s := by
  refine hot_noted st H fun h₁ H₁ => land_flight (s := { s with heap := h₁ }) H₁.land fun h₂ H₂ => ?_
  refine wpAny_handleBy_cons (codeAny_handlers_test ?_) (by intro q; cases q)
  have G₂ : G1 w h₂ := G.keeps H₂.stays
  obtain ⟨p, l, mg, mb, T⟩ := G₂.T
  refine Calls.Name_function_global S.kind S.glo (Calls.loadGlobal_global (env := envOf qn sc L f cd) T.g (mg_of G₂.X T.g (gl_GrammarFault w)) ?_) S.nd
  have hC := G₂.X _ _ (show (K0 w.params).lookup 60 = some (o_60 w.params) by kernel_rfl)
  obtain ⟨a0, fl, oe, vs, T', oT, ts, he, ⟨hcls, _⟩, _⟩ := id H₂.tr
  obtain ⟨hh, g, d, tk, os⟩ := s
  refine wpAny_excMatches_sub_self (bm := bmG) hC he hcls (by decide +kernel) (codeAny_handlers_suite ?_)
  refine land_flight (s := ⟨h₂, g, d, tk, os⟩) H₂ fun h₃ H₃ => ?_
  have := h h₃ (notedBy (Mw w) (A.mark (some (.ref e))) (envOf qn sc L f cd) fun x s₂ => cameBackBy (Mw w) A (envOf qn sc L f cd) E x s₂) H₃
  rw [← S0.st h₃ tk] at this
  exact this
theorem law_refused_c {w : World} {h : Heap} {text : Str} {t : Tok} {ws : List Str} {Ss : List Spec} {rem' : List Tk} (G : G1 w h)
    (hJ : J (("ENVIRONMENT DIVISION . INPUT-OUTPUT SECTION . FILE-CONTROL . " : Str) ++ text) ws) (hx : text.length ≤ 1000) (hn : ∀ x ∈ ws, (1 ≤ x.length ∧ x.length ≤ 1000) ∧ 32 ∉ cds x) (hE : EnvR true (ws.map tokOf) Ss rem')
    {A : Around} {s : Shared} {R : Result → Shared → Prop} {outer : List Env} (hs : s.heap = h) (ok : Ok A 10) (K : Stk A outer [] h)
    (kk : ∀ h' tk', (∀ b o, h.get? b = some o → b ∉ frs outer → h'.get? b = some o) → SlK (frs outer) h h' → R (.ok (.ret (.bool true))) { s with heap := h', toks := tk' }) :
    codeAny (Mw w) A (.call (.ref 403) ⟨[.str text t], []⟩) R s := by
  subst hs
  refine enter [] (fs__law_refused w _) G nil_mem (by have := ok.dp; omega) fun hz L h₁ ez Gz F x eL hnn => ?_
  have ok' := ok.deeper (envOf "_law_refused" s_403 L 403 (.ref 402))
  have st := Around.frames_deeper (env := envOf "_law_refused" s_403 L 403 (.ref 402)) K.st
  generalize hA : A.deeper (envOf "_law_refused" s_403 L 403 (.ref 402)) = A' at *
  have B : Bd w [] s s.heap L hz h₁ [("text", .str text t)] := ⟨Gz, F, x.nil, eL, nil_mem, ez⟩
  have hG : G1 w (Bs s.heap [] outer) := G.hide fun b m => by
    rcases List.mem_append.mp m with m | m
    · cases m
    · exact (K.off b m).2
  refine wpAny_execs_cons (wpAny_Try_except ?_)
  have goes : ∀ E, Goes w A' [] outer s.heap (envOf "_law_refused" s_403 L 403 (.ref 402)) s (fun e s₁ => wpAny (Mw w) A' (noteFrame e (envOf "_law_refused" s_403 L 403 (.ref 402))) (fun _ s₂ => wpAny (Mw w) A' (setFlight e none) (fun _ s₃ => wpAny (Mw w) A' (handleBy e (envOf "_law_refused" s_403 L 403 (.ref 402)) [.ExceptHandler (some (.Name "GrammarFault" ⟨309, 11, 309, 23⟩)) none [.Return (some (.Constant (.bool true) 0 ⟨310, 15, 310, 19⟩)) ⟨310, 8, 310, 19⟩] ⟨309, 4, 310, 19⟩])
      (fun f s₄ => match f with | .next => wpAny (Mw w) A' (execs (b_403.drop 1) (envOf "_law_refused" s_403 L 403 (.ref 402))) (fun fl s' => R (.ok (.ret (retOf fl))) s') E s₄ | f => (fun fl s' => R (.ok (.ret (retOf fl))) s') f s₄) E s₃) E s₂) E s₁) := fun E => by
    refine ⟨st, K.fr, K.off, fun e h' tk' H => ?_⟩
    refine except_GF (s := St s h' tk') (σ := s) hG (by walk_at "LOC") st H fun h₂ E' H₂ => ?_
    refine wpAny_execs_cons (wpAny_Return_some (wpAny_Constant_bool ?_))
    exact kk h₂ _ (fun b o q n => H₂.stays b o (hideAll_get _ q fun m => by rcases List.mem_append.mp m with m | m; cases m; exact n m)) H₂.sl
  have hlen : (("ENVIRONMENT DIVISION . INPUT-OUTPUT SECTION . FILE-CONTROL . " : Str) ++ text).length ≤ 1100 := by
    rw [Str.length_append, show ("ENVIRONMENT DIVISION . INPUT-OUTPUT SECTION . FILE-CONTROL . " : Str).length = 61 from rfl]; omega
  refine wpAny_execs_cons (wpAny_Expr_any (f1_ B (gl_read_environment w) (kp_read_environment w) (f1_ B (gl_Reader w) (kc_Reader w) (f1_ B (gl__law_tokens w) (kp__law_tokens w) (wpAny_BinOp (wpAny_Constant_str (n_ B (add_str (fun t' tk' => ⟨⟨_, B.F⟩, ?_⟩) ?_)))))))) 
  · refine Bd.use (s := St s h₁ tk') B (law_tokens_c B.G1 (split_J hJ fun x m => (hn x m).2) (by omega) fun x m => (hn x m).1) fun v h₂ tk₂ B₂ x2 p => ?_
    obtain ⟨tl, ts, rfl, htl, T₂, hts⟩ := p
    refine ⟨⟨_, B₂.F⟩, ?_⟩
    refine make_ (post := fun x dx h' => RD h' x dx tl 0) B₂ (mk_Reader w) (in_Reader w) (ft_Reader w) (fun x dx h' G' x' I => reader_init_c G' I) fun r d h₃ tk₃ B₃ x3 hd hr R₃ => ?_
    have hLd : L < d := Nat.lt_of_lt_of_le B₂.Llt hd
    refine ⟨⟨_, B₃.F⟩, ?_⟩
    have hR : Rd h₃ r d tl ts (ws.map tokOf) := ⟨0, R₃, by rw [← hts]; rfl, Nat.zero_le _⟩
    have hT : Toks (hideAll h₃ [d]) tl ts := T₂.keeps fun b o e => hideAll_get _ (x3.keeps b o e) (nin1 (Nat.ne_of_lt (Nat.lt_of_lt_of_le (Heap.lt_size e) hd)))
    have hne : 0 < ts.length := by
      have := congrArg List.length hts
      rw [List.length_map, List.length_map] at this
      rw [this]
      exact List.length_pos_iff.mpr hJ.1
    refine B₃.useB (read_env_b B₃.G1 hR hT hne hE) (fun v h₄ tk₄ B₄ x4 p => ?_) (fun _ => ⟨outer, goes _⟩) (hs := fun y m => one_mem m (.inr hLd))
    cases p.1
  · rw [sizeLine_eq, show ("ENVIRONMENT DIVISION . INPUT-OUTPUT SECTION . FILE-CONTROL . " : Str).length = 61 from rfl]; omega
noncomputable def sel3 (a b c : Str) : Nat → Str | 0 => a | 1 => b | _ => c
noncomputable def sel2 (a b : Str) : Nat → Str | 0 => a | _ => b
noncomputable def kinds : Nat → Str := sel3 "sequential" "relative" "indexed"
noncomputable def accs : Nat → Str := sel3 "sequential" "random" "dynamic"
noncomputable def pathV : Nat → Str := sel3 "p.dat" "DISK" "q"
noncomputable def pathT : Nat → Str := sel3 "ASSIGN TO 'p.dat'" "ASSIGN DISK" "ASSIGN TO DISK 'q'"
noncomputable def orgP : Nat → Str := sel3 "ORGANIZATION IS " "ORGANIZATION " ""
noncomputable def accP : Nat → Str := sel2 "ACCESS MODE IS " "ACCESS "
noncomputable def keyT : Nat → Str := sel2 "RECORD KEY IS K" "RECORD K"
noncomputable def relT : Nat → Str := sel3 "RELATIVE KEY IS R" "RELATIVE KEY R" "RELATIVE IS R"
noncomputable def stT : Nat → Str := sel2 "FILE STATUS IS S" "STATUS S"
noncomputable def altN : Nat → Str | 0 => "J0" | _ => "J1"
noncomputable def altT : Nat → Bool → Str
  | 0, false => "ALTERNATE RECORD KEY IS J0"
  | 0, true => "ALTERNATE RECORD KEY IS J0 WITH DUPLICATES"
  | _, false => "ALTERNATE RECORD KEY IS J1"
  | _, true => "ALTERNATE RECORD KEY IS J1 WITH DUPLICATES"
/-- what a SELECT's draws say -/
structure Dr where
  kd : Nat
  ac : Nat
  p : Nat
  og : Option Nat
  ag : Option Nat
  kg : Option Nat
  al : List Bool
  rg : Option Nat
  sg : Option Nat
noncomputable def optR (o : Option Nat) (f : Nat → Str) : List Str := o.toList.map f
noncomputable def altR : Nat → List Bool → List Str
  | _, [] => []
  | i, b :: r => altT i b :: altR (i + 1) r
noncomputable def altP' : Nat → List Bool → List (Str × Bool)
  | _, [] => []
  | i, b :: r => (altN i, b) :: altP' (i + 1) r
noncomputable def orgT (k o : Nat) : Str := orgP o ++ Txt.upper (kinds k)
noncomputable def accT (a o : Nat) : Str := accP o ++ Txt.upper (accs a)
noncomputable def Dr.rows (d : Dr) : List Str := [pathT d.p] ++ optR d.og (orgT d.kd) ++ optR d.ag (accT d.ac) ++ optR d.kg keyT ++ altR 0 d.al ++ optR d.rg relT ++ optR d.sg stT
noncomputable def Dr.key (d : Dr) : Str := if d.kg.isSome then "K" else ""
noncomputable def Dr.rel (d : Dr) : Str := if d.rg.isSome then "R" else ""
noncomputable def Dr.st (d : Dr) : Str := if d.sg.isSome then "S" else ""
structure Dr.Ok (d : Dr) : Prop where
  k3 : d.kd < 3
  a3 : d.ac < 3
  p3 : d.p < 3
  ka : d.kd = 0 → d.ac = 0
  o : d.og = none → d.kd = 0
  o3 : ∀ o, d.og = some o → o < 3
  a : d.ag = none → d.ac = 0
  a2 : ∀ o, d.ag = some o → o < 2
  k : d.kg.isSome = decide (d.kd = 2)
  k2 : ∀ o, d.kg = some o → o < 2
  l2 : d.al.length ≤ 2
  lk : d.kd ≠ 2 → d.al = []
  r : d.rg.isSome = true → d.kd = 1
  ra : d.rg = none → d.kd = 1 → d.ac = 0
  r3 : ∀ o, d.rg = some o → o < 3
  s2 : ∀ o, d.sg = some o → o < 2
theorem up0 : Txt.upper "sequential" = "SEQUENTIAL" := by decide +kernel
theorem up1 : Txt.upper "relative" = "RELATIVE" := by decide +kernel
theorem up2 : Txt.upper "indexed" = "INDEXED" := by decide +kernel
theorem up3 : Txt.upper "random" = "RANDOM" := by decide +kernel
theorem up4 : Txt.upper "dynamic" = "DYNAMIC" := by decide +kernel
theorem lo0 : Txt.lower "SEQUENTIAL" = "sequential" := by decide +kernel
theorem lo1 : Txt.lower "RELATIVE" = "relative" := by decide +kernel
theorem lo2 : Txt.lower "INDEXED" = "indexed" := by decide +kernel
theorem lo3 : Txt.lower "RANDOM" = "random" := by decide +kernel
theorem lo4 : Txt.lower "DYNAMIC" = "dynamic" := by decide +kernel
theorem kinds_up (k : Nat) : Txt.upper (kinds k) = match k with | 0 => "SEQUENTIAL" | 1 => "RELATIVE" | _ => "INDEXED" := by
  unfold kinds sel3; split
  · exact up0
  · exact up1
  · exact up2
theorem accs_up (k : Nat) : Txt.upper (accs k) = match k with | 0 => "SEQUENTIAL" | 1 => "RANDOM" | _ => "DYNAMIC" := by
  unfold accs sel3; split
  · exact up0
  · exact up3
  · exact up4
/-- the words of a text of finitely many -/
theorem lenS (x : String) (n : Nat) (h : (Str.ofString x).length ≤ n) : (Str.ofString x).length ≤ n := h
theorem orgT_len (k o : Nat) : (orgT k o).length ≤ 100 := by
  unfold orgT
  rw [Str.length_append, kinds_up]
  unfold orgP sel3
  split <;> split <;> decide +kernel
theorem accT_len (k o : Nat) : (accT k o).length ≤ 100 := by
  unfold accT
  rw [Str.length_append, accs_up]
  unfold accP sel2
  split <;> split <;> decide +kernel
theorem pathT_len (p : Nat) : (pathT p).length ≤ 100 := by unfold pathT sel3; split <;> decide +kernel
theorem keyT_len (p : Nat) : (keyT p).length ≤ 100 := by unfold keyT sel2; split <;> decide +kernel
theorem relT_len (p : Nat) : (relT p).length ≤ 100 := by unfold relT sel3; split <;> decide +kernel
theorem stT_len (p : Nat) : (stT p).length ≤ 100 := by unfold stT sel2; split <;> decide +kernel
theorem altT_len (i : Nat) (b : Bool) : (altT i b).length ≤ 100 := by unfold altT; split <;> decide +kernel
theorem optR_len {o : Option Nat} {f : Nat → Str} (h : ∀ i, (f i).length ≤ 100) : ∀ x ∈ optR o f, x.length ≤ 100 := fun x m => by
  obtain ⟨i, _, rfl⟩ := List.mem_map.mp m
  exact h i
theorem altR_len : ∀ (l : List Bool) (i : Nat), ∀ x ∈ altR i l, x.length ≤ 100
  | [], _, _, m => nomatch m
  | b :: r, i, x, m => by
    rcases List.mem_cons.mp m with rfl | m
    · exact altT_len i b
    · exact altR_len r (i + 1) x m
theorem rows_len (d : Dr) : ∀ x ∈ d.rows, x.length ≤ 100 := fun x m => by
  unfold Dr.rows at m
  simp only [List.mem_append] at m
  rcases m with (((((m | m) | m) | m) | m) | m) | m
  · rcases List.mem_cons.mp m with rfl | m
    · exact pathT_len _
    · cases m
  · exact optR_len (orgT_len _) x m
  · exact optR_len (accT_len _) x m
  · exact optR_len keyT_len x m
  · exact altR_len _ _ x m
  · exact optR_len relT_len x m
  · exact optR_len stT_len x m
theorem optR_count (o : Option Nat) (f : Nat → Str) : (optR o f).length ≤ 1 := by cases o <;> simp [optR]
theorem altR_count : ∀ (l : List Bool) (i : Nat), (altR i l).length = l.length
  | [], _ => rfl
  | _ :: r, i => congrArg (· + 1) (altR_count r (i + 1))
theorem rows_count (d : Dr) : 1 ≤ d.rows.length ∧ d.rows.length ≤ 6 + d.al.length := by
  unfold Dr.rows
  have h1 := optR_count d.og (orgT d.kd)
  have h2 := optR_count d.ag (accT d.ac)
  have h3 := optR_count d.kg keyT
  have h4 := optR_count d.rg relT
  have h5 := optR_count d.sg stT
  have h6 := altR_count d.al 0
  simp only [List.length_append, List.length_singleton]
  omega

theorem kinds_len (k : Nat) : (kinds k).length ≤ 20 := by unfold kinds sel3; split <;> decide +kernel
theorem accs_len (k : Nat) : (accs k).length ≤ 20 := by unfold accs sel3; split <;> decide +kernel
theorem kinds_upl (k : Nat) : (Txt.upper (kinds k)).length ≤ 20 := by rw [kinds_up]; split <;> decide +kernel
theorem accs_upl (k : Nat) : (Txt.upper (accs k)).length ≤ 20 := by rw [accs_up]; split <;> decide +kernel
theorem orgP_len (k : Nat) : (orgP k).length ≤ 20 := by unfold orgP sel3; split <;> decide +kernel
theorem accP_len (k : Nat) : (accP k).length ≤ 20 := by unfold accP sel2; split <;> decide +kernel
theorem kinds_ne (k : Nat) : (kinds k != ("sequential" : Str)) = (k != 0) := by
  match k with
  | 0 => decide +kernel
  | 1 => decide +kernel
  | n + 2 => show (("indexed" : Str) != ("sequential" : Str)) = _; rw [show (n + 2 != 0) = true from by simp]; decide +kernel
theorem accs_ne (k : Nat) : (accs k != ("sequential" : Str)) = (k != 0) := by
  match k with
  | 0 => decide +kernel
  | 1 => decide +kernel
  | n + 2 => show (("dynamic" : Str) != ("sequential" : Str)) = _; rw [show (n + 2 != 0) = true from by simp]; decide +kernel
theorem kinds_eq2 (k : Nat) (h : k < 3) : (kinds k == ("indexed" : Str)) = (k == 2) := by
  match k, h with
  | 0, _ => decide +kernel
  | 1, _ => decide +kernel
  | 2, _ => decide +kernel
theorem kinds_eq1 (k : Nat) (h : k < 3) : (kinds k == ("relative" : Str)) = (k == 1) := by
  match k, h with
  | 0, _ => decide +kernel
  | 1, _ => decide +kernel
  | 2, _ => decide +kernel
theorem seqIdx {i : Int} {n : Nat} (h1 : 0 ≤ i) (h2 : i < (n : Int)) : seqIndex? i n = some i.toNat := by
  have h3 : ¬ i < 0 := by omega
  unfold seqIndex?
  simp [h1, h2, h3]
section
variable {w : World} {A : Around} {E : Value → Shared → Prop} {s σ : Shared} {D : List Addr} {h0 hz : Heap} {L f tp : Addr} {ls : List (Str × Value)} {qn : Str} {sc : Scope} {cd : Value} {k : Nat}
/-- _law_draw(tape, m) -/
theorem draw_ {xp ap cp pos : Pos} {ck : Nat} {m : Int} {Q : Value → Shared → Prop} (B : Bd w D σ h0 L hz s.heap ls) (T : Tape s.heap tp k) (hk : k ≤ 100000)
    (h : ∀ i t h' tk', Bd w D σ h0 L hz h' ls → Ext [tp] s.heap h' → Tape h' tp (k + 1) → 0 ≤ i → i < m → Q (.int i t) (St σ h' tk'))
    (hd : tp ∈ D ∨ L < tp := by walk_at "DD") (ok : Ok A 2 := by walk_at "OK") (S : Same σ s := by walk_at "SM") (hm : 0 < m := by decide) (S1 : Glo sc "_law_draw" := by walk_at "LOC") (S2 : Loc sc "tape" := by walk_at "LOC") (hx : look ls "tape" = some (.ref tp) := by walk_at "LK")
    (he : starEach [.Name "tape" ap, .Constant (.int m) ck cp] (envOf qn sc L f cd) = [(false, eval (.Name "tape" ap) (envOf qn sc L f cd)), (false, eval (.Constant (.int m) ck cp) (envOf qn sc L f cd))] := by rfl) (he2 : starEach [.Constant (.int m) ck cp] (envOf qn sc L f cd) = [(false, eval (.Constant (.int m) ck cp) (envOf qn sc L f cd))] := by rfl)
    (hc : eval (.Call (.Name "_law_draw" xp) [.Name "tape" ap, .Constant (.int m) ck cp] [] pos) (envOf qn sc L f cd) = (do callWith pos (← eval (.Name "_law_draw" xp) (envOf qn sc L f cd)) [] (backTo pos (starEach [.Name "tape" ap, .Constant (.int m) ck cp] (envOf qn sc L f cd))) (backToKw pos (keywordEach [] (envOf qn sc L f cd)))) := by rfl) :
    wpAny (Mw w) A (eval (.Call (.Name "_law_draw" xp) [.Name "tape" ap, .Constant (.int m) ck cp] [] pos) (envOf qn sc L f cd)) Q E s := by
  have hs : ∀ x ∈ [tp], x ∈ D ∨ L < x := fun x m => one_mem m (hd)
  refine f2_ B (gl__law_draw w) (kp__law_draw w) (n_ B (wpAny_Constant_int ⟨⟨_, B.F⟩, ?_⟩) S2 hx) S1 he he2 hc
  refine Bd.use (s := { s with toks := s.toks + 1 }) B (law_draw_c B.G1 T hk hm) (fun v h' tk' B' x' p => ?_) ⟨by rw [S.eq]⟩ ok hs
  obtain ⟨⟨i, t, rfl, h1, h2⟩, T'⟩ := p
  exact h i t h' tk' B' x' T' h1 h2
/-- an item of a tuple at a place drawn -/
theorem tupitem_ {value slice : PySem.Expr} {t : Addr} {vs : List Value} {i : Int} {u : Tok} {x : Value} {Q : Value → Shared → Prop} (T : IsTup s.heap t vs.toArray) (h1 : 0 ≤ i) (h2 : i < (vs.length : Int)) (hl : vs.length ≤ 1000) (hx : vs[i.toNat]? = some x) (h : Q x s)
    (hs : subscripted slice false (.ref t) (.int i u) = operate [.ref t, .int i u] (getItem (.ref t) (.int i u)) := by with_unfolding_all rfl) :
    wpAny (Mw w) A (subscriptTail value slice (.ref t) (.int i u)) Q E s := by
  exact item_tupleT T (by omega) (by omega) (j := i.toNat) (seqIdx h1 h2) hx h hs
/-- rows.append(e), a text -/
theorem rowapp_ {rl : Addr} {vs : List Value} {e : PySem.Expr} {xp apos pos pos' : Pos} {Q : Flow → Shared → Prop} (B : Bd w D σ h0 L hz s.heap ls) (P : s.heap.PlainList rl vs.toArray) (hL : L < rl) (hn : vs.length ≤ 1000)
    (h : wpAny (Mw w) A (eval e (envOf qn sc L f cd)) (fun v s₁ => ∃ (x : Str) (t : Tok) (h' : Heap) (tk' : Tok), v = Value.str x t ∧ s₁ = St σ h' tk' ∧ Bd w D σ h0 L hz h' ls ∧ h'.PlainList rl vs.toArray ∧
      ∀ h'' tk'', Bd w D σ h0 L hz h'' ls → Ext [rl] h' h'' → h''.PlainList rl (vs ++ [Value.str x t]).toArray → Q .next (St σ h'' tk'')) E s)
    (S1 : Loc sc "rows" := by walk_at "LOC") (hx : look ls "rows" = some (.ref rl) := by walk_at "LK")
    (hbase : attributeBase (.Name "rows" xp) "append" (envOf qn sc L f cd) (eval (.Name "rows" xp) (envOf qn sc L f cd)) = eval (.Name "rows" xp) (envOf qn sc L f cd) := by with_unfolding_all rfl) (hs : starEach [e] (envOf qn sc L f cd) = [(false, eval e (envOf qn sc L f cd))] := by rfl) (hline : (apos.endLine == pos.line) = true := by decide +kernel)
    (hi : interactive (envOf qn sc L f cd) = false := by rfl) (hsw : swapsWith (.Call (.Attribute (.Name "rows" xp) "append" apos) [e] [] pos) none pos'.line (envOf qn sc L f cd) = pure false := by rfl) :
    wpAny (Mw w) A (exec (.Expr (.Call (.Attribute (.Name "rows" xp) "append" apos) [e] [] pos) pos') (envOf qn sc L f cd)) Q E s := by
  refine wpAny_Expr_any (bm_ PySem.F.plainAttrs_list PySem.F.slot_list_append PySem.F.type_list_append (n_ B ⟨(pl_isList P).typeIs, fun a e => ?_, wpAny_mono h (fun v s₁ q => ?_) fun _ _ x => x⟩ S1 hx) hbase hs hline) hi hsw
  · obtain ⟨n, e'⟩ := P; cases e; exact ⟨_, e', rfl⟩
  · obtain ⟨x, t, h', tk', rfl, rfl, B', P', kk⟩ := q
    refine app_ (s := St σ h' tk') B' P' (.inr hL) (by simp; omega) fun h'' tk'' B'' x'' P'' => kk h'' tk'' B'' x'' (by simpa using P'')
end
theorem for_range {w : World} {A : Around} {s σ : Shared} {R : Result → Shared → Prop} {env : Env} {x : Str} {px : Pos} {body : List Stmt} {it : Addr} (P : Nat → Heap → Prop) (n : Nat) (hh : A.handled = none) (h0 : P 0 s.heap)
    (turn : ∀ i h t, P i h → i ≤ n → IsRangeIter h it (i : Int) ((n : Int) - (i : Int)) 1 ∧ (i = n → ∀ h', Ext [it] h h' → R (.ok .next) (St σ h' t)) ∧
      ∀ u E', i < n → ∀ h', Ext [it] h h' → IsRangeIter h' it ((i + 1 : Nat) : Int) ((n : Int) - ((i + 1 : Nat) : Int)) 1 →
        wpAny (Mw w) A (storeName env x (.int (i : Int) u)) (fun _ s₂ => wpAny (Mw w) A (execs body env) (fun f s₃ => match f with
          | .next | .cont => Same σ s₃ ∧ P (i + 1) s₃.heap
          | .brk => R (.ok .next) s₃
          | .ret v => R (.ok (.ret v)) s₃) E' s₂) E' (St σ h' (t + 1))) (S : Same σ s := by walk_at "SM") : codeAny (Mw w) A (.forLoop (.Name x px) (.ref it) body [] env) R s := by
  refine codeAny_forLoop (fun m s => ∃ i, m = n + 1 - i ∧ i ≤ n ∧ Same σ s ∧ P i s.heap) (fun m s hI => ?_) _ ⟨0, rfl, Nat.zero_le _, S, h0⟩
  obtain ⟨i, rfl, hi, S, p⟩ := hI
  obtain ⟨hit, fin, go⟩ := turn i s.heap s.toks p hi
  by_cases e : i = n
  · exact wpAny_pyNext_range_end hh hit (by omega) fun h₁ he₁ => wpAny_execs_nil (S.st h₁ s.toks ▸ fin e h₁ fun b o e n => he₁ b o (fun q => n (q ▸ .head _)) e)
  · have hlt : i < n := by omega
    refine wpAny_pyNext_range_item hit (by omega) fun h₁ hit₁ hs₁ => ?_
    have e1 : ((i : Int) + 1) = ((i + 1 : Nat) : Int) := by omega
    have e2 : ((n : Int) - (i : Int) - 1) = ((n : Int) - ((i + 1 : Nat) : Int)) := by omega
    rw [e1, e2] at hit₁
    have := go s.toks (notedBy (Mw w) A env fun e s' => R (.error e) s') hlt h₁ (fun b o e n => (hs₁.2 b fun q => n (q ▸ .head _)).trans e) hit₁
    rw [← S.st h₁ (s.toks + 1)] at this
    refine wpAny_assign_Name (wpAny_mono this (fun _ s₂ q => wpAny_mono q (fun f s₃ q => ?_) fun _ _ x => x) fun _ _ x => x)
    cases f with
    | next => exact ⟨_, by omega, i + 1, rfl, hlt, q⟩
    | cont => exact ⟨_, by omega, i + 1, rfl, hlt, q⟩
    | brk => exact q
    | ret v => exact q
noncomputable def rowScope : Scope := { kind := .function, names := [(".0", .local), ("row", .local)], isGenerator := false, isCoroutine := false, more := [] }
theorem strs_mem {vs : List Value} {ys : List Str} (P : StrsAre vs ys) {v : Value} (m : v ∈ vs) : ∃ (x : Str) (t : Tok), v = Value.str x t ∧ x ∈ ys := by
  induction P with
  | nil => cases m
  | cons x t _ ih =>
    rcases List.mem_cons.mp m with rfl | m
    · exact ⟨_, _, rfl, .head _⟩
    · obtain ⟨x', t', e, q⟩ := ih m
      exact ⟨x', t', e, .tail _ q⟩
noncomputable def strP (p : Str → Bool) : Value → Bool
  | .str x _ => p x
  | _ => false
theorem strs_filter {vs : List Value} {ys : List Str} (P : StrsAre vs ys) (p : Str → Bool) : StrsAre (vs.filter (strP p)) (ys.filter p) := by
  induction P with
  | nil => exact .nil
  | cons x t _ ih =>
    rw [List.filter_cons, List.filter_cons, show strP p (.str x t) = p x from rfl]
    split
    · exact .cons _ _ ih
    · exact ih
theorem paired_eq {l l' : List Value} (P : Paired (fun v y => y = v) l l') : l' = l := by
  induction P with
  | nil => rfl
  | cons e _ ih => rw [e, ih]
/-- [row for row in rows if test] -/
theorem sel_comp {w : World} {A : Around} {E : Value → Shared → Prop} {s σ : Shared} {D : List Addr} {h0 hz : Heap} {L f rl : Addr} {ls : List (Str × Value)} {qn : Str} {sc : Scope} {cd : Value} {y : Str} {test : PySem.Expr} {py rp px ip pos spos : Pos} {vs : List Value} {xs : List Str} {Q : Flow → Shared → Prop} (p : Str → Bool)
    (B : Bd w D σ h0 L hz s.heap ls) (P : s.heap.PlainList rl vs.toArray) (V : StrsAre vs xs) (hn : vs.length ≤ 1000) (hrL : rl ≠ L)
    (ht : ∀ (C : Addr) (x : Str) (t : Tok) (s₃ : Shared) (m₃ : Str → Option Value) (E' : Value → Shared → Prop), x ∈ xs → s₃.heap.Ns C m₃ → m₃ "row" = some (.str x t) → wpAny (Mw w) A (isTrue test (compEnvC rowScope [] C (envOf qn sc L f cd)) (eval test (compEnvC rowScope [] C (envOf qn sc L f cd)))) (fun b s₄ => b = p x ∧ Keeps s₃ s₄) E' s₃)
    (h : ∀ D' h' tk' ws, Bd w D σ h0 L hz h' ((y, .ref D') :: ls) → Ext [L] s.heap h' → s.heap.get? D' = none → h'.PlainList D' ws.toArray → StrsAre ws (xs.filter p) → Q .next (St σ h' tk'))
    (ok : Ok A 0 := by walk_at "OK") (S : Same σ s := by walk_at "SM") (S1 : Loc sc "rows" := by walk_at "LOC") (S2 : Loc sc y := by walk_at "LOC") (hx : look ls "rows" = some (.ref rl) := by walk_at "LK")
    (hsw : swapsWith (.ListComp (.Name "row" rp) [⟨.Name "row" px, .Name "rows" ip, [test], 0⟩] rowScope pos) (some (.Name y py)) spos.line (envOf qn sc L f cd) = pure true := by rfl)
    (hl0 : (compEnvC rowScope [] 0 (envOf qn sc L f cd)).kindOf "row" = some .local := by rfl) :
    wpAny (Mw w) A (exec (.Assign [.Name y py] (.ListComp (.Name "row" rp) [⟨.Name "row" px, .Name "rows" ip, [test], 0⟩] rowScope pos) spos) (envOf qn sc L f cd)) Q E s := by
  have S' : ∀ h t, { s with heap := h, toks := t } = St σ h t := S.st
  refine wpAny_Assign_ListComp_free (strP p) (fun v y => y = v) hsw (closureFor_none (by decide)) (by decide) rfl (by decide) rfl S2.loc (by show (sc.kind == .class || (sc.kind == .module && L != mainGlobals)) = false; rw [S2.kind]; rfl) (n_ B (wpAny_pyIter_list (pl_isList P) ?_) S1 hx)
  have hrl : rl < s.heap.objs.size := by obtain ⟨n, e⟩ := P; exact Heap.lt_size e
  have hLs : L < s.heap.objs.size := B.Llt
  have F2 := (B.push { cls := .type "list_iterator", data := .fields #[.ref rl, .int 0 0] }).F
  refine ⟨_, _, _, _, _, _, _, rfl, Walks.list ok.hd s.heap.objs.size rl (Nat.ne_of_lt hrl) vs.toArray, by rw [sizeLine_eq]; simp; omega, ⟨⟨_, Heap.get?_push_size _ rfl, rfl, rfl⟩, il_ext (pl_isList P) (Ext.push _ _) nil_not⟩, ?_, ?_, F2.ns, ⟨?_, ?_⟩, ?_⟩
  · intro b hb
    rw [Heap.size_push]
    rcases List.mem_cons.mp hb with rfl | hb
    · exact Nat.lt_succ_self _
    · rcases List.mem_cons.mp hb with rfl | hb
      · exact Nat.lt_succ_of_lt hrl
      · cases hb
  · intro m
    rcases List.mem_cons.mp m with e | m
    · exact Nat.ne_of_lt hLs e
    · cases m
  · intro C i v s₃ m₃ E' hC hv hns hm hk htk
    obtain ⟨x, t, rfl, hx'⟩ := strs_mem V (v := v) (by rw [List.getElem?_toArray] at hv; exact List.mem_of_getElem? hv)
    exact wpAny_tests_one (ht C x t s₃ m₃ E' hx' hns hm)
  · intro C i v s₃ m₃ E' hC hv _ hns hm hk htk
    exact ldVarK hns hm ⟨rfl, _, _, rfl, fun _ _ e => e⟩
  · intro D' h₉ tk₉ ys vs' hD' hys hpl hvn hP hF hns hk
    have e := list_all (as := vs) hvn (by simp) hP
    subst e
    have hys2 := paired_eq hF
    have x9 : Ext [L] s.heap h₉ := fun b o e n => hk b o (fun q => n (q ▸ .head _)) (fun m => by
      rcases List.mem_cons.mp m with e' | m
      · rw [e'] at e; exact Nat.lt_irrefl _ (Heap.lt_size e)
      · cases m) (Heap.get?_push_of_some _ e)
    have B₉ : Bd w D σ h0 L hz h₉ ((y, .ref D') :: ls) := by
      refine B.step ⟨?_, fun b o e => x9 b o (B.keep b o e) fun m => ?_, B.F.above⟩ x9 fun d m => .inr (one_mem m (Nat.le_refl _))
      · have := hns
        rw [look_put] at this
        exact this
      · rcases List.mem_cons.mp m with rfl | m
        · exact absurd (Heap.lt_size e) (Nat.not_lt.mpr B.F.above)
        · cases m
    have hD0 : s.heap.get? D' = none := by
      cases q : s.heap.get? D' with
      | none => rfl
      | some o => rw [Heap.get?_push_of_some _ q] at hD'; cases hD'
    have := h D' h₉ tk₉ ys.toList B₉ x9 hD0 (by simpa using hpl) (hys2 ▸ strs_filter V p)
    rw [← S' h₉ tk₉] at this
    exact this
noncomputable def isAlt (x : Str) : Bool := Txt.slice x none (some 9) == ("ALTERNATE" : Str)
theorem slice_ns {w : World} {A : Around} {E : Value → Shared → Prop} {s : Shared} {value slice : PySem.Expr} {x : Str} {t uj : Tok} {j : Int} {Q : Value → Shared → Prop}
    (h : ∀ t' k, Q (.str (Txt.slice x none (some j)) t') { s with heap := s.heap.push { cls := .type "slice", data := .fields #[.none, .int j uj, .none] }, toks := k }) (hsz : x.length ≤ 1000)
    (hs : subscripted slice false (.str x t) (.ref s.heap.objs.size) = operate [.ref s.heap.objs.size, .str x t] (getItem (.str x t) (.ref s.heap.objs.size)) := by with_unfolding_all rfl)
    (ht : ∀ r, letTemporaryGo value (.str x t) r = pure () := by intro _; with_unfolding_all rfl) :
    wpAny (Mw w) A (subscriptTail value slice (.str x t) (.ref s.heap.objs.size)) Q E { s with heap := s.heap.push { cls := .type "slice", data := .fields #[.none, .int j uj, .none] } } :=
  tail_of_ItemOn ⟨"str", _, PySem.F.slot_str_getitem.lookup, typeIs_str _ _ _, wpAny_getItem_str_slice (l := none) (u := some (j, uj)) (st := none) ⟨_, Heap.get?_push_size _ rfl, rfl, rfl⟩ rfl
    (post_val_or_str ⟨Nat.le_trans (PySem.Txt.slice_le x _ _) (by rw [sizeLine_eq]; omega), fun t' k => h t' k⟩)⟩ hs ht
theorem row_testE {w : World} {A : Around} {env : Env} {C : Addr} {x : Str} {t : Tok} {s₃ : Shared} {m₃ : Str → Option Value} {E' : Value → Shared → Prop} {a b c d e g : Pos} (hl : x.length ≤ 1000) (hns : s₃.heap.Ns C m₃) (hm : m₃ "row" = some (.str x t)) :
    wpAny (Mw w) A (isTrue (.Compare (.Subscript (.Name "row" a) (.Slice none (some (.Constant (.int 9) 0 b)) none c) d) [.Eq] [.Constant (.str "ALTERNATE") 0 e] g) (compEnvC rowScope [] C env) (eval (.Compare (.Subscript (.Name "row" a) (.Slice none (some (.Constant (.int 9) 0 b)) none c) d) [.Eq] [.Constant (.str "ALTERNATE") 0 e] g) (compEnvC rowScope [] C env)))
      (fun b s₄ => b = isAlt x ∧ Keeps s₃ s₄) E' s₃ := by
  refine wpAny_isTrue_Compare1 (Subscript_ (ldVarK hns hm (wpAny_Slice (evalPart_none_step (evalPart_some_step (wpAny_Constant_int (evalPart_none_step ?_)))))))
  refine slice_ns (s := { s₃ with toks := s₃.toks + 1 }) (fun t' k => ?_) hl
  exact wpAny_Constant_str (eq_str (wpAny_truthy_bool ⟨rfl, _, _, rfl, fun b o e => Heap.get?_push_of_some _ e⟩))
theorem row_testN {w : World} {A : Around} {env : Env} {C : Addr} {x : Str} {t : Tok} {s₃ : Shared} {m₃ : Str → Option Value} {E' : Value → Shared → Prop} {a b c d e g : Pos} (hl : x.length ≤ 1000) (hns : s₃.heap.Ns C m₃) (hm : m₃ "row" = some (.str x t)) :
    wpAny (Mw w) A (isTrue (.Compare (.Subscript (.Name "row" a) (.Slice none (some (.Constant (.int 9) 0 b)) none c) d) [.NotEq] [.Constant (.str "ALTERNATE") 0 e] g) (compEnvC rowScope [] C env) (eval (.Compare (.Subscript (.Name "row" a) (.Slice none (some (.Constant (.int 9) 0 b)) none c) d) [.NotEq] [.Constant (.str "ALTERNATE") 0 e] g) (compEnvC rowScope [] C env)))
      (fun b s₄ => b = (!isAlt x) ∧ Keeps s₃ s₄) E' s₃ := by
  refine wpAny_isTrue_Compare1 (Subscript_ (ldVarK hns hm (wpAny_Slice (evalPart_none_step (evalPart_some_step (wpAny_Constant_int (evalPart_none_step ?_)))))))
  refine slice_ns (s := { s₃ with toks := s₃.toks + 1 }) (fun t' k => ?_) hl
  exact wpAny_Constant_str (ne_str (wpAny_truthy_bool ⟨rfl, _, _, rfl, fun b o e => Heap.get?_push_of_some _ e⟩))
structure SV where
  kd : Nat
  ac : Nat
  p : Nat
  key : Str
  rel : Str
  st : Str
  al : List (Str × Bool)
  rows : List Str
/-- what _law_select holds between its statements -/
structure Sel (w : World) (σ : Shared) (h0 : Heap) (L : Addr) (hz : Heap) (tp : Addr) (nm : Str) (h : Heap) (ls : List (Str × Value)) (k : Nat) (rl : Addr) (v : SV) : Prop where
  B : Bd w [tp] σ h0 L hz h ls
  T : Tape h tp k
  tape : look ls "tape" = some (.ref tp)
  name : ∃ t, look ls "name" = some (.str nm t)
  kind : ∃ t, look ls "kind" = some (.str (kinds v.kd) t)
  access : ∃ t, look ls "access" = some (.str (accs v.ac) t)
  path : ∃ t, look ls "path" = some (.str (pathV v.p) t)
  rows : look ls "rows" = some (.ref rl)
  key : ∃ t, look ls "key" = some (.str v.key t)
  others : ∃ ot, look ls "others" = some (.ref ot) ∧ Alts h ot v.al
  relative : ∃ t, look ls "relative" = some (.str v.rel t)
  status : ∃ t, look ls "status" = some (.str v.st t)
  list : ∃ vs, h.PlainList rl vs.toArray ∧ StrsAre vs v.rows
  rL : L < rl
noncomputable def selSpec (nm : Str) (d : Dr) : Spec := ⟨nm, pathV d.p, kinds d.kd, accs d.ac, d.key, altP' 0 d.al, d.rel, d.st⟩
theorem tup_extI {h h' : Heap} {a l : Addr} {items its : Array Value} (T : IsTup h a items) (x : Ext [l] h h') (P : h.IsList l its) : IsTup h' a items := by
  obtain ⟨o, ho, hc, r⟩ := T
  refine ⟨o, x _ _ ho (nin1 ?_), hc, r⟩
  rintro rfl
  obtain ⟨o', e, c, _⟩ := P
  rw [ho] at e; cases e
  rw [hc] at c
  exact absurd (Value.type.inj c) (by decide)
theorem Pairs.extI {h h' : Heap} {l : Addr} {its : Array Value} {vs as} (P : Pairs h vs as) (x : Ext [l] h h') (M : h.IsList l its) : Pairs h' vs as := by
  induction P with
  | nil => exact .nil
  | cons p _ ih =>
    obtain ⟨a, t, rfl, T⟩ := p
    exact .cons ⟨a, t, rfl, tup_extI T x M⟩ ih
theorem Alts.extI {h h' : Heap} {l al : Addr} {its : Array Value} {as} (P : Alts h al as) (x : Ext [l] h h') (M : h.IsList l its) : Alts h' al as := let ⟨vs, T, p⟩ := P; ⟨vs, tup_extI T x M, p.extI x M⟩
theorem Tape.list {h tp k} (T : Tape h tp k) : ∃ its, h.IsList tp its := let ⟨_, _, _, a, _⟩ := T; ⟨_, a⟩
theorem Tape.extL {h h' : Heap} {l : Addr} {tp k} (T : Tape h tp k) (x : Ext [l] h h') (hl : tp < l) : Tape h' tp k := by
  obtain ⟨cl, t, items, a, b, c1, c2, c3, c4, c5⟩ := T
  exact ⟨cl, t, items, il_ext a x (nin1 (Nat.ne_of_lt hl)), il_ext b x (nin1 (Nat.ne_of_lt (Nat.lt_trans c4 hl))), c1, c2, c3, c4, c5⟩
theorem Alts.extL {h h' : Heap} {l al : Addr} {its : Array Value} {as} (P : Alts h al as) (x : Ext [l] h h') (M : h.PlainList l its) : Alts h' al as := let ⟨vs, T, p⟩ := P; ⟨vs, tup_extL T x M, p.extL x M⟩
theorem cutS {M : Model} {A : Around} {E : Value → Shared → Prop} {s : Shared} {m : Sem Flow} {Q : Flow → Shared → Prop} (X : Shared → Prop) (h1 : wpAny M A m (fun fl s' => fl = .next ∧ X s') E s) (h2 : ∀ s', X s' → Q .next s') : wpAny M A m Q E s :=
  wpAny_mono h1 (fun fl s' ⟨e, x⟩ => e ▸ h2 s' x) fun _ _ x => x
section
variable {w : World} {A : Around} {E : Value → Shared → Prop} {s σ : Shared} {D : List Addr} {h0 hz : Heap} {L f tp : Addr} {ls : List (Str × Value)} {qn : Str} {sc : Scope} {cd : Value} {k : Nat}
theorem push_back {h h' : Heap} {o : Obj} {l : Addr} (x : Ext [l] (h.push o) h') : Ext [l] h h' := fun b o' e n => x b o' (Heap.get?_push_of_some _ e) n
/-- (a, b, c)[_law_draw(tape, 3)] -/
theorem pick3_ {a b c : Str} {p1 p2 p3 p4 p5 xp ap cp pos : Pos} {ck : Nat} {Q : Value → Shared → Prop} (B : Bd w D σ h0 L hz s.heap ls) (T : Tape s.heap tp k) (hk : k ≤ 100000)
    (h : ∀ (i : Nat) t h' tk', i < 3 → Bd w D σ h0 L hz h' ls → Ext [tp] s.heap h' → Tape h' tp (k + 1) → Q (.str (sel3 a b c i) t) (St σ h' tk'))
    (hd : tp ∈ D ∨ L < tp := by walk_at "DD") (ok : Ok A 2 := by walk_at "OK") (S : Same σ s := by walk_at "SM") (S1 : Glo sc "_law_draw" := by walk_at "LOC") (S2 : Loc sc "tape" := by walk_at "LOC") (hx : look ls "tape" = some (.ref tp) := by walk_at "LK") :
    wpAny (Mw w) A (eval (.Subscript (.Tuple [.Constant (.str a) 0 p1, .Constant (.str b) 0 p2, .Constant (.str c) 0 p3] 0 p4) (.Call (.Name "_law_draw" xp) [.Name "tape" ap, .Constant (.int 3) ck cp] [] pos) p5) (envOf qn sc L f cd)) Q E s := by
  refine Subscript_ (wpAny_Tuple (args_cons (wpAny_Constant_str (args_cons (wpAny_Constant_str (args_cons (wpAny_Constant_str (args_nil ⟨szl rfl, ?_⟩))))))))
  generalize ho : ({ cls := .type "tuple", data := .seq [Value.str a s.toks, .str b (s.toks + 1), .str c (s.toks + 1 + 1)].toArray } : Obj) = o
  have T1 : IsTup (s.heap.push o) s.heap.objs.size [Value.str a s.toks, .str b (s.toks + 1), .str c (s.toks + 1 + 1)].toArray := ⟨o, Heap.get?_push_size _ (by rw [← ho]; rfl), by rw [← ho], 0, by rw [← ho]⟩
  have B1 := B.push o
  have Tp := T.keeps (Ext.push s.heap o)
  obtain ⟨its, hli⟩ := Tp.list
  refine draw_ (s := { s with heap := s.heap.push o, toks := s.toks + 1 + 1 + 1 }) B1 Tp hk (fun i t h' tk' B' x' T' h1 h2 => ?_) hd ok ⟨by rw [S.eq]⟩ (by decide) S1 S2 hx
  have T2 := tup_extI T1 x' hli
  obtain ⟨n, rfl⟩ := Int.eq_ofNat_of_zero_le h1
  have hn : n < 3 := by omega
  have fin := fun t' => h n t' h' tk' hn B' (push_back x') T'
  match n, hn with
  | 0, _ => exact tupitem_ T2 (by decide) (by simp) (by simp) rfl (fin _)
  | 1, _ => exact tupitem_ T2 (by decide) (by simp) (by simp) rfl (fin _)
  | 2, _ => exact tupitem_ T2 (by decide) (by simp) (by simp) rfl (fin _)
/-- (a, b)[_law_draw(tape, 2)] -/
theorem pick2_ {a b : Str} {p1 p2 p4 p5 xp ap cp pos : Pos} {ck : Nat} {Q : Value → Shared → Prop} (B : Bd w D σ h0 L hz s.heap ls) (T : Tape s.heap tp k) (hk : k ≤ 100000)
    (h : ∀ (i : Nat) t h' tk', i < 2 → Bd w D σ h0 L hz h' ls → Ext [tp] s.heap h' → Tape h' tp (k + 1) → Q (.str (sel2 a b i) t) (St σ h' tk'))
    (hd : tp ∈ D ∨ L < tp := by walk_at "DD") (ok : Ok A 2 := by walk_at "OK") (S : Same σ s := by walk_at "SM") (S1 : Glo sc "_law_draw" := by walk_at "LOC") (S2 : Loc sc "tape" := by walk_at "LOC") (hx : look ls "tape" = some (.ref tp) := by walk_at "LK") :
    wpAny (Mw w) A (eval (.Subscript (.Tuple [.Constant (.str a) 0 p1, .Constant (.str b) 0 p2] 0 p4) (.Call (.Name "_law_draw" xp) [.Name "tape" ap, .Constant (.int 2) ck cp] [] pos) p5) (envOf qn sc L f cd)) Q E s := by
  refine Subscript_ (wpAny_Tuple (args_cons (wpAny_Constant_str (args_cons (wpAny_Constant_str (args_nil ⟨szl rfl, ?_⟩))))))
  generalize ho : ({ cls := .type "tuple", data := .seq [Value.str a s.toks, .str b (s.toks + 1)].toArray } : Obj) = o
  have T1 : IsTup (s.heap.push o) s.heap.objs.size [Value.str a s.toks, .str b (s.toks + 1)].toArray := ⟨o, Heap.get?_push_size _ (by rw [← ho]; rfl), by rw [← ho], 0, by rw [← ho]⟩
  have B1 := B.push o
  have Tp := T.keeps (Ext.push s.heap o)
  obtain ⟨its, hli⟩ := Tp.list
  refine draw_ (s := { s with heap := s.heap.push o, toks := s.toks + 1 + 1 }) B1 Tp hk (fun i t h' tk' B' x' T' h1 h2 => ?_) hd ok ⟨by rw [S.eq]⟩ (by decide) S1 S2 hx
  have T2 := tup_extI T1 x' hli
  obtain ⟨n, rfl⟩ := Int.eq_ofNat_of_zero_le h1
  have hn : n < 2 := by omega
  have fin := fun t' => h n t' h' tk' hn B' (push_back x') T'
  match n, hn with
  | 0, _ => exact tupitem_ T2 (by decide) (by simp) (by simp) rfl (fin _)
  | 1, _ => exact tupitem_ T2 (by decide) (by simp) (by simp) rfl (fin _)
/-- the test _law_draw(tape, 2) == n -/
theorem flip_ {xp ap cp pos ep cpos : Pos} {ck : Nat} {n : Int} {whole : Sem Value} {Q : Bool → Shared → Prop} (B : Bd w D σ h0 L hz s.heap ls) (T : Tape s.heap tp k) (hk : k ≤ 100000)
    (h : ∀ b h' tk', Bd w D σ h0 L hz h' ls → Ext [tp] s.heap h' → Tape h' tp (k + 1) → Q b (St σ h' tk'))
    (hd : tp ∈ D ∨ L < tp := by walk_at "DD") (ok : Ok A 2 := by walk_at "OK") (S : Same σ s := by walk_at "SM") (S1 : Glo sc "_law_draw" := by walk_at "LOC") (S2 : Loc sc "tape" := by walk_at "LOC") (hx : look ls "tape" = some (.ref tp) := by walk_at "LK") :
    wpAny (Mw w) A (isTrue (.Compare (.Call (.Name "_law_draw" xp) [.Name "tape" ap, .Constant (.int 2) ck cp] [] pos) [.Eq] [.Constant (.int n) 0 ep] cpos) (envOf qn sc L f cd) whole) Q E s :=
  wpAny_isTrue_Compare1 (draw_ B T hk (fun i t h' tk' B' x' T' _ _ => wpAny_Constant_int (PyProof.Rows.eq_int (wpAny_truthy_bool (h _ h' _ B' x' T')))) hd ok S (by decide) S1 S2 hx)
end
section
variable {w : World} {A : Around} {K : Flow → Shared → Prop} {E : Value → Shared → Prop} {σ : Shared} {h0 hz h h' : Heap} {L tp rl : Addr} {ls : List (Str × Value)} {nm : Str} {k k' : Nat} {v : SV}
noncomputable abbrev eS (L : Addr) : Env := envOf "_law_select" s_396 L 396 (.ref 395)
theorem Sel.tL (S : Sel w σ h0 L hz tp nm h ls k rl v) : tp < L := (S.B.dn tp (.head _)).2
theorem Sel.draw (S : Sel w σ h0 L hz tp nm h ls k rl v) (B : Bd w [tp] σ h0 L hz h' ls) (x : Ext [tp] h h') (T : Tape h' tp k') : Sel w σ h0 L hz tp nm h' ls k' rl v := by
  obtain ⟨_, m⟩ := S.T.list
  exact ⟨B, T, S.tape, S.name, S.kind, S.access, S.path, S.rows, S.key, let ⟨ot, a, b⟩ := S.others; ⟨ot, a, b.extI x m⟩, S.relative, S.status, let ⟨vs, a, b⟩ := S.list; ⟨vs, pl_ext a x (nin1 (Nat.ne_of_gt (Nat.lt_trans S.tL S.rL))), b⟩, S.rL⟩
theorem Sel.keep (S : Sel w σ h0 L hz tp nm h ls k rl v) (B : Bd w [tp] σ h0 L hz h' ls) (x : Ext [] h h') : Sel w σ h0 L hz tp nm h' ls k rl v :=
  ⟨B, S.T.keeps x, S.tape, S.name, S.kind, S.access, S.path, S.rows, S.key, let ⟨ot, a, b⟩ := S.others; ⟨ot, a, b.ext x nil_mem⟩, S.relative, S.status, let ⟨vs, a, b⟩ := S.list; ⟨vs, pl_ext a x nil_not, b⟩, S.rL⟩
theorem Sel.app (S : Sel w σ h0 L hz tp nm h ls k rl v) {vs : List Value} (M : h.PlainList rl vs.toArray) (V : StrsAre vs v.rows) {x : Str} {t : Tok} (B : Bd w [tp] σ h0 L hz h' ls) (e : Ext [rl] h h') (P : h'.PlainList rl (vs ++ [Value.str x t]).toArray) :
    Sel w σ h0 L hz tp nm h' ls k rl { v with rows := v.rows ++ [x] } :=
  ⟨B, S.T.extL e (Nat.lt_trans S.tL S.rL), S.tape, S.name, S.kind, S.access, S.path, S.rows, S.key, let ⟨ot, a, b⟩ := S.others; ⟨ot, a, b.extL e M⟩, S.relative, S.status, ⟨_, P, strs_snoc V x t⟩, S.rL⟩
theorem look_skip {x y : Str} {v u : Value} (h : look ls x = some v) (n : (x == y) = false) : look ((y, u) :: ls) x = some v := look_there h n
/-- a name that nothing hangs on is stored -/
theorem Sel.put (S : Sel w σ h0 L hz tp nm h ls k rl v) {y : Str} {u : Value} (B : Bd w [tp] σ h0 L hz h' ((y, u) :: ls)) (x : Ext [L] h h')
    (n : ((["tape", "name", "kind", "access", "path", "rows", "key", "others", "relative", "status"] : List Str).all fun z => !(z == y)) = true := by decide +kernel) : Sel w σ h0 L hz tp nm h' ((y, u) :: ls) k rl v := by
  have d := one_dict S.B.isDict
  have q : ∀ z, z ∈ (["tape", "name", "kind", "access", "path", "rows", "key", "others", "relative", "status"] : List Str) → (z == y) = false := fun z m => by
    have := List.all_eq_true.mp n z m
    simpa using this
  exact ⟨B, S.T.ext x d, look_skip S.tape (q _ (by simp)), S.name.imp fun _ e => look_skip e (q _ (by simp)), S.kind.imp fun _ e => look_skip e (q _ (by simp)), S.access.imp fun _ e => look_skip e (q _ (by simp)), S.path.imp fun _ e => look_skip e (q _ (by simp)),
    look_skip S.rows (q _ (by simp)), S.key.imp fun _ e => look_skip e (q _ (by simp)), let ⟨ot, a, b⟩ := S.others; ⟨ot, look_skip a (q _ (by simp)), b.ext x d⟩, S.relative.imp fun _ e => look_skip e (q _ (by simp)), S.status.imp fun _ e => look_skip e (q _ (by simp)),
    let ⟨vs, a, b⟩ := S.list; ⟨vs, pl_ext a x (nin1 (Nat.ne_of_gt S.rL)), b⟩, S.rL⟩
theorem Sel.few (S : Sel w σ h0 L hz tp nm h ls k rl v) (h : v.rows.length ≤ 900) {vs : List Value} (V : StrsAre vs v.rows) : vs.length ≤ 1000 := by rw [strs_length V]; omega
theorem optR_some (i : Nat) (f : Nat → Str) : optR (some i) f = [f i] := rfl
theorem sel5 {tk : Tok} (S : Sel w σ h0 L hz tp nm h ls k rl v) (ok : Ok A 2) (hk : k ≤ 50000) (hr : v.rows.length ≤ 100)
    (next : ∀ h' tk' k' og, Sel w σ h0 L hz tp nm h' ls k' rl { v with rows := v.rows ++ optR og (orgT v.kd) } → (og = none → v.kd = 0) → (∀ o, og = some o → o < 3) → k' ≤ k + 2 → wpAny (Mw w) A (execs (b_396.drop 5) (eS L)) K E (St σ h' tk')) :
    wpAny (Mw w) A (execs (b_396.drop 4) (eS L)) K E (St σ h tk) := by
  obtain ⟨tkd, lkd⟩ := S.kind
  have ltp := S.tape
  have lrw := S.rows
  refine wpAny_execs_cons (cutS (fun s' => ∃ h' tk' k' og, s' = St σ h' tk' ∧ Sel w σ h0 L hz tp nm h' ls k' rl { v with rows := v.rows ++ optR og (orgT v.kd) } ∧ (og = none → v.kd = 0) ∧ (∀ o, og = some o → o < 3) ∧ k' ≤ k + 2) ?_ ?_)
  · refine wpAny_If (mono_q (fun b s' => ∃ h' tk' k', s' = St σ h' tk' ∧ Sel w σ h0 L hz tp nm h' ls k' rl v ∧ k' ≤ k + 1 ∧ (b = false → v.kd = 0)) ?_ ?_)
    · refine isTrue_or (wpAny_isTrue_Compare1 (n_ S.B (wpAny_Constant_str (ne_str (wpAny_truthy_bool ?_)))))
      rw [kinds_ne]
      cases hkd : (v.kd != 0) with
      | true => exact ⟨h, _, k, rfl, S, Nat.le_succ _, fun q => nomatch q⟩
      | false =>
        have h0' : v.kd = 0 := by simpa using hkd
        refine isTrue_or (flip_ S.B S.T (by omega) fun b h' tk' B' x' T' => ?_)
        cases b with
        | true => exact ⟨h', tk', k + 1, rfl, S.draw B' x' T', Nat.le_refl _, fun q => nomatch q⟩
        | false => exact isTrue_or_nil ⟨h', tk', k + 1, rfl, S.draw B' x' T', Nat.le_refl _, fun _ => h0'⟩
    · rintro b s' ⟨h₁, tk₁, k₁, rfl, S₁, hk₁, hb⟩
      cases b with
      | false => exact wpAny_execs_nil ⟨rfl, h₁, tk₁, k₁, none, rfl, by simpa [optR] using S₁, (fun _ => hb rfl), (fun _ q => nomatch q), by omega⟩
      | true =>
        obtain ⟨vs, M, V⟩ := S₁.list
        refine wpAny_execs_cons (rowapp_ S₁.B M S₁.rL (S₁.few (by omega) V) (wpAny_BinOp (pick3_ S₁.B S₁.T (by omega) fun i t h₂ tk₂ hi B₂ x₂ T₂ => ?_)))
        refine bm0_ PySem.F.plainAttrs_str PySem.F.slot_str_upper PySem.F.type_str_upper (n_ B₂ ⟨typeIs_str _ _ _, fun _ e => (nomatch e), ?_⟩)
        have S₂ := S₁.draw B₂ x₂ T₂
        have l1 := kinds_len v.kd
        have l2 := kinds_upl v.kd
        have l3 := orgP_len i
        refine SCL.upper (by omega) fun _ => add_str (fun t' tk' => ⟨orgT v.kd i, t', h₂, tk', rfl, rfl, B₂, pl_ext M x₂ (nin1 (Nat.ne_of_gt (Nat.lt_trans S.tL S.rL))), fun h₃ tk₃ B₃ x₃ M₃ => ?_⟩) (by rw [sizeLine_eq, show (sel3 "ORGANIZATION IS " "ORGANIZATION " "" i).length = (orgP i).length from rfl]; omega)
        exact wpAny_execs_nil ⟨rfl, h₃, tk₃, k₁ + 1, some i, rfl, S₂.app (pl_ext M x₂ (nin1 (Nat.ne_of_gt (Nat.lt_trans S.tL S.rL)))) V B₃ x₃ M₃, (fun q => nomatch q), (fun o q => by cases q; exact hi), by omega⟩
  · rintro s' ⟨h', tk', k', og, rfl, S', a, b, c⟩
    exact next h' tk' k' og S' a b c
theorem sel6 {tk : Tok} (S : Sel w σ h0 L hz tp nm h ls k rl v) (ok : Ok A 2) (hk : k ≤ 50000) (hr : v.rows.length ≤ 100)
    (next : ∀ h' tk' k' ag, Sel w σ h0 L hz tp nm h' ls k' rl { v with rows := v.rows ++ optR ag (accT v.ac) } → (ag = none → v.ac = 0) → (∀ o, ag = some o → o < 2) → k' ≤ k + 2 → wpAny (Mw w) A (execs (b_396.drop 6) (eS L)) K E (St σ h' tk')) :
    wpAny (Mw w) A (execs (b_396.drop 5) (eS L)) K E (St σ h tk) := by
  obtain ⟨tkd, lkd⟩ := S.access
  have ltp := S.tape
  have lrw := S.rows
  refine wpAny_execs_cons (cutS (fun s' => ∃ h' tk' k' ag, s' = St σ h' tk' ∧ Sel w σ h0 L hz tp nm h' ls k' rl { v with rows := v.rows ++ optR ag (accT v.ac) } ∧ (ag = none → v.ac = 0) ∧ (∀ o, ag = some o → o < 2) ∧ k' ≤ k + 2) ?_ ?_)
  · refine wpAny_If (mono_q (fun b s' => ∃ h' tk' k', s' = St σ h' tk' ∧ Sel w σ h0 L hz tp nm h' ls k' rl v ∧ k' ≤ k + 1 ∧ (b = false → v.ac = 0)) ?_ ?_)
    · refine isTrue_or (wpAny_isTrue_Compare1 (n_ S.B (wpAny_Constant_str (ne_str (wpAny_truthy_bool ?_)))))
      rw [accs_ne]
      cases hkd : (v.ac != 0) with
      | true => exact ⟨h, _, k, rfl, S, Nat.le_succ _, fun q => nomatch q⟩
      | false =>
        have h0' : v.ac = 0 := by simpa using hkd
        refine isTrue_or (flip_ S.B S.T (by omega) fun b h' tk' B' x' T' => ?_)
        cases b with
        | true => exact ⟨h', tk', k + 1, rfl, S.draw B' x' T', Nat.le_refl _, fun q => nomatch q⟩
        | false => exact isTrue_or_nil ⟨h', tk', k + 1, rfl, S.draw B' x' T', Nat.le_refl _, fun _ => h0'⟩
    · rintro b s' ⟨h₁, tk₁, k₁, rfl, S₁, hk₁, hb⟩
      cases b with
      | false => exact wpAny_execs_nil ⟨rfl, h₁, tk₁, k₁, none, rfl, by simpa [optR] using S₁, (fun _ => hb rfl), (fun _ q => nomatch q), by omega⟩
      | true =>
        obtain ⟨vs, M, V⟩ := S₁.list
        refine wpAny_execs_cons (rowapp_ S₁.B M S₁.rL (S₁.few (by omega) V) (wpAny_BinOp (pick2_ S₁.B S₁.T (by omega) fun i t h₂ tk₂ hi B₂ x₂ T₂ => ?_)))
        refine bm0_ PySem.F.plainAttrs_str PySem.F.slot_str_upper PySem.F.type_str_upper (n_ B₂ ⟨typeIs_str _ _ _, fun _ e => (nomatch e), ?_⟩)
        have S₂ := S₁.draw B₂ x₂ T₂
        have l1 := accs_len v.ac
        have l2 := accs_upl v.ac
        have l3 := accP_len i
        refine SCL.upper (by omega) fun _ => add_str (fun t' tk' => ⟨accT v.ac i, t', h₂, tk', rfl, rfl, B₂, pl_ext M x₂ (nin1 (Nat.ne_of_gt (Nat.lt_trans S.tL S.rL))), fun h₃ tk₃ B₃ x₃ M₃ => ?_⟩) (by rw [sizeLine_eq, show (sel2 "ACCESS MODE IS " "ACCESS " i).length = (accP i).length from rfl]; omega)
        exact wpAny_execs_nil ⟨rfl, h₃, tk₃, k₁ + 1, some i, rfl, S₂.app (pl_ext M x₂ (nin1 (Nat.ne_of_gt (Nat.lt_trans S.tL S.rL)))) V B₃ x₃ M₃, (fun q => nomatch q), (fun o q => by cases q; exact hi), by omega⟩
  · rintro s' ⟨h', tk', k', ag, rfl, S', a, b, c⟩
    exact next h' tk' k' ag S' a b c

theorem Sel.putRel (S : Sel w σ h0 L hz tp nm h ls k rl v) {y : Str} {t : Tok} (B : Bd w [tp] σ h0 L hz h' (("relative", .str y t) :: ls)) (x : Ext [L] h h') : Sel w σ h0 L hz tp nm h' (("relative", .str y t) :: ls) k rl { v with rel := y } := by
  have d := one_dict S.B.isDict
  exact ⟨B, S.T.ext x d, look_skip S.tape (by decide +kernel), S.name.imp fun _ e => look_skip e (by decide +kernel), S.kind.imp fun _ e => look_skip e (by decide +kernel), S.access.imp fun _ e => look_skip e (by decide +kernel), S.path.imp fun _ e => look_skip e (by decide +kernel),
    look_skip S.rows (by decide +kernel), S.key.imp fun _ e => look_skip e (by decide +kernel), let ⟨ot, a, b⟩ := S.others; ⟨ot, look_skip a (by decide +kernel), b.ext x d⟩, ⟨t, look_here _ _ _⟩, S.status.imp fun _ e => look_skip e (by decide +kernel),
    let ⟨vs, a, b⟩ := S.list; ⟨vs, pl_ext a x (nin1 (Nat.ne_of_gt S.rL)), b⟩, S.rL⟩
theorem Sel.putKey (S : Sel w σ h0 L hz tp nm h ls k rl v) {y : Str} {t : Tok} (B : Bd w [tp] σ h0 L hz h' (("key", .str y t) :: ls)) (x : Ext [L] h h') : Sel w σ h0 L hz tp nm h' (("key", .str y t) :: ls) k rl { v with key := y } := by
  have d := one_dict S.B.isDict
  exact ⟨B, S.T.ext x d, look_skip S.tape (by decide +kernel), S.name.imp fun _ e => look_skip e (by decide +kernel), S.kind.imp fun _ e => look_skip e (by decide +kernel), S.access.imp fun _ e => look_skip e (by decide +kernel), S.path.imp fun _ e => look_skip e (by decide +kernel),
    look_skip S.rows (by decide +kernel), ⟨t, look_here _ _ _⟩, let ⟨ot, a, b⟩ := S.others; ⟨ot, look_skip a (by decide +kernel), b.ext x d⟩, S.relative.imp fun _ e => look_skip e (by decide +kernel), S.status.imp fun _ e => look_skip e (by decide +kernel),
    let ⟨vs, a, b⟩ := S.list; ⟨vs, pl_ext a x (nin1 (Nat.ne_of_gt S.rL)), b⟩, S.rL⟩
theorem Sel.putSt (S : Sel w σ h0 L hz tp nm h ls k rl v) {y : Str} {t : Tok} (B : Bd w [tp] σ h0 L hz h' (("status", .str y t) :: ls)) (x : Ext [L] h h') : Sel w σ h0 L hz tp nm h' (("status", .str y t) :: ls) k rl { v with st := y } := by
  have d := one_dict S.B.isDict
  exact ⟨B, S.T.ext x d, look_skip S.tape (by decide +kernel), S.name.imp fun _ e => look_skip e (by decide +kernel), S.kind.imp fun _ e => look_skip e (by decide +kernel), S.access.imp fun _ e => look_skip e (by decide +kernel), S.path.imp fun _ e => look_skip e (by decide +kernel),
    look_skip S.rows (by decide +kernel), S.key.imp fun _ e => look_skip e (by decide +kernel), let ⟨ot, a, b⟩ := S.others; ⟨ot, look_skip a (by decide +kernel), b.ext x d⟩, S.relative.imp fun _ e => look_skip e (by decide +kernel), ⟨t, look_here _ _ _⟩,
    let ⟨vs, a, b⟩ := S.list; ⟨vs, pl_ext a x (nin1 (Nat.ne_of_gt S.rL)), b⟩, S.rL⟩
theorem Sel.putOth (S : Sel w σ h0 L hz tp nm h ls k rl v) {o : Addr} {as : List (Str × Bool)} (a : Alts h o as) (B : Bd w [tp] σ h0 L hz h' (("others", .ref o) :: ls)) (x : Ext [L] h h') : Sel w σ h0 L hz tp nm h' (("others", .ref o) :: ls) k rl { v with al := as } := by
  have d := one_dict S.B.isDict
  exact ⟨B, S.T.ext x d, look_skip S.tape (by decide +kernel), S.name.imp fun _ e => look_skip e (by decide +kernel), S.kind.imp fun _ e => look_skip e (by decide +kernel), S.access.imp fun _ e => look_skip e (by decide +kernel), S.path.imp fun _ e => look_skip e (by decide +kernel),
    look_skip S.rows (by decide +kernel), S.key.imp fun _ e => look_skip e (by decide +kernel), ⟨o, look_here _ _ _, a.ext x d⟩, S.relative.imp fun _ e => look_skip e (by decide +kernel), S.status.imp fun _ e => look_skip e (by decide +kernel),
    let ⟨vs, a, b⟩ := S.list; ⟨vs, pl_ext a x (nin1 (Nat.ne_of_gt S.rL)), b⟩, S.rL⟩
theorem Sel.ne (S : Sel w σ h0 L hz tp nm h ls k rl v) : rl ≠ tp := Nat.ne_of_gt (Nat.lt_trans S.tL S.rL)
theorem sel8 {tk : Tok} (S : Sel w σ h0 L hz tp nm h ls k rl v) (ok : Ok A 2) (hk : k ≤ 50000) (hr : v.rows.length ≤ 100) (h3 : v.kd < 3)
    (next : ∀ h' tk' ls' k' rg, Sel w σ h0 L hz tp nm h' ls' k' rl { v with rel := if rg.isSome then "R" else v.rel, rows := v.rows ++ optR rg relT } → (rg.isSome = true → v.kd = 1) → (rg = none → v.kd = 1 → v.ac = 0) → (∀ o, rg = some o → o < 3) → k' ≤ k + 2 → wpAny (Mw w) A (execs (b_396.drop 8) (eS L)) K E (St σ h' tk')) :
    wpAny (Mw w) A (execs (b_396.drop 7) (eS L)) K E (St σ h tk) := by
  obtain ⟨tkd, lkd⟩ := S.kind
  obtain ⟨tac, lac⟩ := S.access
  have ltp := S.tape
  refine wpAny_execs_cons (cutS (fun s' => ∃ h' tk' ls' k' rg, s' = St σ h' tk' ∧ Sel w σ h0 L hz tp nm h' ls' k' rl { v with rel := if rg.isSome then "R" else v.rel, rows := v.rows ++ optR rg relT } ∧ (rg.isSome = true → v.kd = 1) ∧ (rg = none → v.kd = 1 → v.ac = 0) ∧ (∀ o, rg = some o → o < 3) ∧ k' ≤ k + 2) ?_ ?_)
  · refine wpAny_If (mono_q (fun b s' => ∃ h' tk' k', s' = St σ h' tk' ∧ Sel w σ h0 L hz tp nm h' ls k' rl v ∧ k' ≤ k + 1 ∧ (b = true → v.kd = 1) ∧ (b = false → v.kd = 1 → v.ac = 0)) ?_ ?_)
    · refine isTrue_and (wpAny_isTrue_Compare1 (n_ S.B (wpAny_Constant_str (eq_str (wpAny_truthy_bool ?_)))))
      rw [kinds_eq1 v.kd h3]
      cases hkd : (v.kd == 1) with
      | false => exact ⟨h, _, k, rfl, S, Nat.le_succ _, (fun q => nomatch q), fun _ q => by rw [q] at hkd; cases hkd⟩
      | true =>
        have h0' : v.kd = 1 := by simpa using hkd
        refine isTrue_and (isTrue_or (wpAny_isTrue_Compare1 (n_ S.B (wpAny_Constant_str (ne_str (wpAny_truthy_bool ?_))))))
        rw [accs_ne]
        cases hac : (v.ac != 0) with
        | true => exact isTrue_and_nil ⟨h, _, k, rfl, S, Nat.le_succ _, (fun _ => h0'), fun q => nomatch q⟩
        | false =>
          have h1' : v.ac = 0 := by simpa using hac
          refine isTrue_or (flip_ S.B S.T (by omega) fun b h' tk' B' x' T' => ?_)
          cases b with
          | true => exact isTrue_and_nil ⟨h', tk', k + 1, rfl, S.draw B' x' T', Nat.le_refl _, (fun _ => h0'), fun q => nomatch q⟩
          | false => exact isTrue_or_nil ⟨h', tk', k + 1, rfl, S.draw B' x' T', Nat.le_refl _, (fun q => nomatch q), fun _ _ => h1'⟩
    · rintro b s' ⟨h₁, tk₁, k₁, rfl, S₁, hk₁, hb1, hb2⟩
      cases b with
      | false => exact wpAny_execs_nil ⟨rfl, h₁, tk₁, ls, k₁, none, rfl, by simpa [optR] using S₁, (fun q => nomatch q), (fun _ => hb2 rfl), (fun _ q => nomatch q), by omega⟩
      | true =>
        refine wpAny_execs_cons (as_name (wpAny_Constant_str (s_ S₁.B fun h₂ tk₂ B₂ x₂ => ?_)))
        have S₂ := S₁.putRel B₂ x₂
        obtain ⟨vs, M, V⟩ := S₂.list
        have ltp2 := S₂.tape
        have lrw2 := S₂.rows
        refine wpAny_execs_cons (rowapp_ S₂.B M S₂.rL (S₂.few (by show v.rows.length ≤ 900; omega) V) (pick3_ S₂.B S₂.T (by omega) fun i t h₃ tk₃ hi B₃ x₃ T₃ => ⟨relT i, t, h₃, tk₃, rfl, rfl, B₃, pl_ext M x₃ (nin1 S₂.ne), fun h₄ tk₄ B₄ x₄ M₄ => ?_⟩))
        have S₃ := S₂.draw B₃ x₃ T₃
        exact wpAny_execs_nil ⟨rfl, h₄, tk₄, _, k₁ + 1, some i, rfl, S₃.app (pl_ext M x₃ (nin1 S₂.ne)) V B₄ x₄ M₄, (fun _ => hb1 rfl), (fun q => nomatch q), (fun o q => by cases q; exact hi), by omega⟩
  · rintro s' ⟨h', tk', ls', k', rg, rfl, S', a, b, c, d⟩
    exact next h' tk' ls' k' rg S' a b c d
theorem sel9 {tk : Tok} (S : Sel w σ h0 L hz tp nm h ls k rl v) (ok : Ok A 2) (hk : k ≤ 50000) (hr : v.rows.length ≤ 100)
    (next : ∀ h' tk' ls' k' sg, Sel w σ h0 L hz tp nm h' ls' k' rl { v with st := if sg.isSome then "S" else v.st, rows := v.rows ++ optR sg stT } → (∀ o, sg = some o → o < 2) → k' ≤ k + 2 → wpAny (Mw w) A (execs (b_396.drop 9) (eS L)) K E (St σ h' tk')) :
    wpAny (Mw w) A (execs (b_396.drop 8) (eS L)) K E (St σ h tk) := by
  have ltp := S.tape
  refine wpAny_execs_cons (cutS (fun s' => ∃ h' tk' ls' k' sg, s' = St σ h' tk' ∧ Sel w σ h0 L hz tp nm h' ls' k' rl { v with st := if sg.isSome then "S" else v.st, rows := v.rows ++ optR sg stT } ∧ (∀ o, sg = some o → o < 2) ∧ k' ≤ k + 2) ?_ ?_)
  · refine wpAny_If (flip_ S.B S.T (by omega) fun b h₁ tk₁ B₁ x₁ T₁ => ?_)
    have S₁ := S.draw B₁ x₁ T₁
    cases b with
    | false => exact wpAny_execs_nil ⟨rfl, h₁, tk₁, ls, k + 1, none, rfl, by simpa [optR] using S₁, (fun _ q => nomatch q), by omega⟩
    | true =>
      refine wpAny_execs_cons (as_name (wpAny_Constant_str (s_ S₁.B fun h₂ tk₂ B₂ x₂ => ?_)))
      have S₂ := S₁.putSt B₂ x₂
      obtain ⟨vs, M, V⟩ := S₂.list
      have ltp2 := S₂.tape
      have lrw2 := S₂.rows
      refine wpAny_execs_cons (rowapp_ S₂.B M S₂.rL (S₂.few (by show v.rows.length ≤ 900; omega) V) (pick2_ S₂.B S₂.T (by omega) fun i t h₃ tk₃ hi B₃ x₃ T₃ => ⟨stT i, t, h₃, tk₃, rfl, rfl, B₃, pl_ext M x₃ (nin1 S₂.ne), fun h₄ tk₄ B₄ x₄ M₄ => ?_⟩))
      have S₃ := S₂.draw B₃ x₃ T₃
      exact wpAny_execs_nil ⟨rfl, h₄, tk₄, _, k + 1 + 1, some i, rfl, S₃.app (pl_ext M x₃ (nin1 S₂.ne)) V B₄ x₄ M₄, (fun o q => by cases q; exact hi), by omega⟩
  · rintro s' ⟨h', tk', ls', k', sg, rfl, S', a, b⟩
    exact next h' tk' ls' k' sg S' a b
end
theorem altR_snoc : ∀ (bs : List Bool) (i : Nat) (b : Bool), altR i (bs ++ [b]) = altR i bs ++ [altT (i + bs.length) b]
  | [], i, b => rfl
  | c :: r, i, b => by
    show altT i c :: altR (i + 1) (r ++ [b]) = altT i c :: (altR (i + 1) r ++ [altT (i + (r.length + 1)) b])
    rw [altR_snoc r (i + 1) b, show i + 1 + r.length = i + (r.length + 1) by omega]
theorem altP_snoc : ∀ (bs : List Bool) (i : Nat) (b : Bool), altP' i (bs ++ [b]) = altP' i bs ++ [(altN (i + bs.length), b)]
  | [], i, b => rfl
  | c :: r, i, b => by
    show (altN i, c) :: altP' (i + 1) (r ++ [b]) = (altN i, c) :: (altP' (i + 1) r ++ [(altN (i + (r.length + 1)), b)])
    rw [altP_snoc r (i + 1) b, show i + 1 + r.length = i + (r.length + 1) by omega]
noncomputable def jtxt (i : Nat) : Str := Str.ofString (toString (i : Int))
theorem jtxt_len (i : Nat) (h : i < 2) : (jtxt i).length ≤ 10 := by
  match i, h with
  | 0, _ => decide +kernel
  | 1, _ => decide +kernel
theorem jtxt_n (i : Nat) (h : i < 2) : ("J" : Str) ++ jtxt i = altN i := by
  match i, h with
  | 0, _ => decide +kernel
  | 1, _ => decide +kernel
theorem jtxt_t (i : Nat) (h : i < 2) (b : Bool) : ("ALTERNATE RECORD KEY IS J" : Str) ++ jtxt i ++ (if b then " WITH DUPLICATES" else "" : Str) = altT i b := by
  match i, h, b with
  | 0, _, false => decide +kernel
  | 1, _, false => decide +kernel
  | 0, _, true => decide +kernel
  | 1, _, true => decide +kernel
theorem range_sz (n : Nat) (h : n < 3) : Builtin.Range.rangeSize 0 (n : Int) 1 = (n : Int) ∧ Builtin.Range.small 0 (n : Int) 1 = true := by
  match n, h with
  | 0, _ => decide +kernel
  | 1, _ => decide +kernel
  | 2, _ => decide +kernel
section
variable {w : World} {A : Around} {K : Flow → Shared → Prop} {E : Value → Shared → Prop} {σ : Shared} {h0 hz h h' : Heap} {L tp rl : Addr} {ls : List (Str × Value)} {nm : Str} {k k' : Nat} {v : SV}
theorem ri_list {z : Addr} {a b c : Int} {items : Array Value} {l : Addr} (R : IsRangeIter h z a b c) (P : h.IsList l items) : l ≠ z := by
  rintro rfl
  obtain ⟨o, e, q, _⟩ := P
  rw [show h.get? l = some _ from R] at e; cases e
  exact absurd (Value.type.inj q) (by decide)
theorem tup_extR {z t : Addr} {a b c : Int} {items : Array Value} (T : IsTup h t items) (x : Ext [z] h h') (R : IsRangeIter h z a b c) : IsTup h' t items := by
  obtain ⟨o, ho, hc, r⟩ := T
  refine ⟨o, x _ _ ho (nin1 ?_), hc, r⟩
  rintro rfl
  rw [show h.get? t = some _ from R] at ho; cases ho
  exact absurd (Value.type.inj hc) (by decide)
theorem Pairs.extR {z : Addr} {a b c : Int} {vs as} (P : Pairs h vs as) (x : Ext [z] h h') (R : IsRangeIter h z a b c) : Pairs h' vs as := by
  induction P with
  | nil => exact .nil
  | cons p _ ih =>
    obtain ⟨a, t, rfl, T⟩ := p
    exact .cons ⟨a, t, rfl, tup_extR T x R⟩ ih
theorem Sel.iter {z : Addr} {a b c : Int} (S : Sel w σ h0 L hz tp nm h ls k rl v) (R : IsRangeIter h z a b c) (B : Bd w [tp] σ h0 L hz h' ls) (x : Ext [z] h h') : Sel w σ h0 L hz tp nm h' ls k rl v := by
  refine ⟨B, ?_, S.tape, S.name, S.kind, S.access, S.path, S.rows, S.key, ?_, S.relative, S.status, let ⟨vs, a, b⟩ := S.list; ⟨vs, pl_ext a x (nin1 (ri_list R (pl_isList a))), b⟩, S.rL⟩
  · obtain ⟨cl, t, items, a, b, q⟩ := S.T
    exact ⟨cl, t, items, il_ext a x (nin1 (ri_list R a)), il_ext b x (nin1 (ri_list R b)), q⟩
  · obtain ⟨ot, a, vs, t, p⟩ := S.others
    exact ⟨ot, a, vs, tup_extR t x R, p.extR x R⟩
theorem Sel.dict (S : Sel w σ h0 L hz tp nm h ls k rl v) (B : Bd w [tp] σ h0 L hz h' ls) (x : Ext [L] h h') : Sel w σ h0 L hz tp nm h' ls k rl v :=
  have d := one_dict S.B.isDict
  ⟨B, S.T.ext x d, S.tape, S.name, S.kind, S.access, S.path, S.rows, S.key, let ⟨ot, a, b⟩ := S.others; ⟨ot, a, b.ext x d⟩, S.relative, S.status, let ⟨vs, a, b⟩ := S.list; ⟨vs, pl_ext a x (nin1 (Nat.ne_of_gt S.rL)), b⟩, S.rL⟩
theorem Pairs.count {vs as} (P : Pairs h vs as) : vs.length = as.length := P.length
theorem altP_len : ∀ (bs : List Bool) (i : Nat), (altP' i bs).length = bs.length
  | [], _ => rfl
  | _ :: r, i => congrArg (· + 1) (altP_len r (i + 1))
theorem sel7_turn {tk : Tok} {i : Nat} {bs : List Bool} {vk : SV} (S : Sel w σ h0 L hz tp nm h ls k rl { vk with al := altP' 0 bs, rows := vk.rows ++ altR 0 bs }) (ok : Ok A 2) (hk : k ≤ 50000) (hr : vk.rows.length ≤ 100) (hi : i < 2) (hb : bs.length = i) {u : Tok} (hs : look ls "spot" = some (.int (i : Int) u))
    {Q : Flow → Shared → Prop} (next : ∀ h' tk' ls' b, Sel w σ h0 L hz tp nm h' ls' (k + 1) rl { vk with al := altP' 0 (bs ++ [b]), rows := vk.rows ++ altR 0 (bs ++ [b]) } → Ext [L, tp, rl] h h' → Q .next (St σ h' tk')) :
    ∀ {x px it pos fb orel}, (b_396.drop 6).head? = some (.If x fb orel pos) → ∀ {pt body}, (fb.drop 2).head? = some (.For (.Name "spot" px) it body [] pt) → wpAny (Mw w) A (execs body (eS L)) Q E (St σ h tk) := by
  intro x px it pos fb orel e1 pt body e2
  have ltp := S.tape
  cases e1
  cases e2
  refine wpAny_execs_cons (as_name (wpAny_Compare1 (draw_ S.B S.T (by omega) fun j t h₁ tk₁ B₁ x₁ T₁ _ _ => wpAny_Constant_int (PyProof.Rows.eq_int (s_ B₁ fun h₂ tk₂ B₂ x₂ => ?_)))))
  have S₁ := S.draw B₁ x₁ T₁
  have S₂ := S₁.put B₂ x₂
  generalize hbb : (j == 1) = b at *
  obtain ⟨ot, lo, vs, hal, hps⟩ := S₂.others
  have hps : Pairs h₂ vs (altP' 0 bs) := hps
  have hvl : vs.length ≤ 10 := by rw [hps.length, altP_len]; omega
  have hj := jtxt_len i hi
  have hlog : ((i : Nat) : Int).natAbs.log2 < 1920 := by
    match i, hi with
    | 0, _ => decide
    | 1, _ => decide
  refine wpAny_execs_cons (as_name (wpAny_BinOp (n_ S₂.B ?_)))
  refine wpAny_Tuple (args_cons (wpAny_Tuple (args_cons (wpAny_BinOp (wpAny_Constant_str (Call_ (b_ S₂.B (gn_str w) (PyProof.Rows.callWith_type1 (args_cons (n_ S₂.B (v := .int (i : Int) u) (args_nil (P.str_of_int hlog ?_))))))))))))
  refine add_str (x := "J") (y := jtxt i) (fun t' tk' => args_cons (n_ S₂.B (v := .bool b) (args_nil ⟨szl rfl, args_nil ⟨szl rfl, ?_⟩⟩))) (by rw [sizeLine_eq, show ("J" : Str).length = 1 from rfl]; omega)
  rw [jtxt_n i hi]
  generalize hp1 : ({ cls := .type "tuple", data := .seq [Value.str (altN i) t', .bool b].toArray } : Obj) = o1
  generalize hp2 : ({ cls := .type "tuple", data := .seq [Value.ref h₂.objs.size].toArray } : Obj) = o2
  have B₃ := (S₂.B.push o1).push o2
  have x3 : Ext [] h₂ ((h₂.push o1).push o2) := (Ext.push _ _).trans (Ext.push _ _)
  have T1 : IsTup ((h₂.push o1).push o2) h₂.objs.size #[Value.str (altN i) t', .bool b] := ⟨o1, Heap.get?_push_of_some _ (Heap.get?_push_size _ (by rw [← hp1]; rfl)), by rw [← hp1], 0, by rw [← hp1]⟩
  have T2 : IsTup ((h₂.push o1).push o2) (h₂.push o1).objs.size [Value.ref h₂.objs.size].toArray := ⟨o2, Heap.get?_push_size _ (by rw [← hp2]; rfl), by rw [← hp2], 0, by rw [← hp2]⟩
  have S₃ := S₂.keep B₃ x3
  refine addt_ B₃ (tup_ext hal x3 fun _ m => nomatch m) T2 (fun a h₄ tk₄ B₄ x4 T4 => ?_) (by rw [sizeLine_eq]; simp; omega)
  have hdd : ∀ z ∈ [L], isDict ((h₂.push o1).push o2) z := one_dict B₃.isDict
  have A4 : Alts h₄ a (altP' 0 (bs ++ [b])) := by
    rw [altP_snoc, hb, Nat.zero_add]
    exact ⟨_, T4, ((hps.ext x3 fun _ m => nomatch m).ext x4 hdd).snoc ⟨_, t', rfl, tup_ext T1 x4 hdd⟩⟩
  have S₄ : Sel w σ h0 L hz tp nm h₄ _ (k + 1) rl _ := S₃.dict B₄ x4
  refine s_ B₄ fun h₅ tk₅ B₅ x5 => ?_
  have S₅ := S₄.putOth A4 B₅ x5
  obtain ⟨vr, M, V⟩ := S₅.list
  have lrw := S₅.rows
  have hvr : vr.length ≤ 1000 := by
    have := strs_length V
    rw [this]
    show (vk.rows ++ altR 0 bs).length ≤ 1000
    rw [List.length_append, altR_count]; omega
  refine wpAny_execs_cons (rowapp_ S₅.B M S₅.rL hvr (wpAny_BinOp (wpAny_BinOp (wpAny_Constant_str (Call_ (b_ S₅.B (gn_str w) (PyProof.Rows.callWith_type1 (args_cons (n_ S₅.B (v := .int (i : Int) u) (args_nil (P.str_of_int hlog ?_)))))))))))
  refine add_str (x := "ALTERNATE RECORD KEY IS J") (y := jtxt i) (fun t₂ tk' => ?_) (by rw [sizeLine_eq, show ("ALTERNATE RECORD KEY IS J" : Str).length = 25 from rfl]; omega)
  refine mono_q (fun v s' => ∃ t tk, v = Value.str (if b then " WITH DUPLICATES" else "" : Str) t ∧ s' = St σ h₅ tk) ?_ ?_
  · refine wpAny_IfExp (isTrue_plain (n_ S₅.B (v := .bool b) (wpAny_truthy_bool ?_)))
    cases b with
    | true => exact wpAny_Constant_str ⟨_, _, rfl, rfl⟩
    | false => exact wpAny_Constant_str ⟨_, _, rfl, rfl⟩
  rintro v' s' ⟨t₃, tk₃, rfl, rfl⟩
  refine add_str (fun t₄ tk₆ => ⟨altT i b, t₄, h₅, tk₆, by rw [jtxt_t i hi b], rfl, S₅.B, M, fun h₆ tk₇ B₆ x6 M6 => wpAny_execs_nil ?_⟩) ?_
  · have S₆ := S₅.app M V B₆ x6 M6
    have e : (vk.rows ++ altR 0 bs) ++ [altT i b] = vk.rows ++ altR 0 (bs ++ [b]) := by rw [altR_snoc, hb, Nat.zero_add, List.append_assoc]
    have e1 : Ext [L, tp, rl] h h₁ := x₁.wide fun d m => one_mem m (.tail _ (.head _))
    have e2 : Ext [L, tp, rl] h₁ h₂ := x₂.wide fun d m => one_mem m (.head _)
    have e4 : Ext [L, tp, rl] ((h₂.push o1).push o2) h₄ := x4.wide fun d m => one_mem m (.head _)
    have e5 : Ext [L, tp, rl] h₄ h₅ := x5.wide fun d m => one_mem m (.head _)
    have e6 : Ext [L, tp, rl] h₅ h₆ := x6.wide fun d m => one_mem m (.tail _ (.tail _ (.head _)))
    have conv : ∀ {ls'}, Sel w σ h0 L hz tp nm h₆ ls' (k + 1) rl { vk with al := altP' 0 (bs ++ [b]), rows := (vk.rows ++ altR 0 bs) ++ [altT i b] } → Sel w σ h0 L hz tp nm h₆ ls' (k + 1) rl { vk with al := altP' 0 (bs ++ [b]), rows := vk.rows ++ altR 0 (bs ++ [b]) } := fun s => by rw [← e]; exact s
    exact next h₆ tk₇ _ b (conv S₆) ((((e1.trans e2).trans x3.nil).trans e4).trans (e5.trans e6))
  · rw [sizeLine_eq, Str.length_append, show ("ALTERNATE RECORD KEY IS J" : Str).length = 25 from rfl]
    have : (if b then " WITH DUPLICATES" else "" : Str).length ≤ 20 := by cases b <;> decide +kernel
    omega
theorem sel7 {tk : Tok} (S : Sel w σ h0 L hz tp nm h ls k rl v) (ok : Ok A 2) (hk : k ≤ 40000) (hr : v.rows.length ≤ 50) (h3 : v.kd < 3) (hal : v.al = [])
    (next : ∀ h' tk' ls' k' kg bs, Sel w σ h0 L hz tp nm h' ls' k' rl { v with key := if kg.isSome then "K" else v.key, al := altP' 0 bs, rows := v.rows ++ optR kg keyT ++ altR 0 bs } → kg.isSome = decide (v.kd = 2) → (∀ o, kg = some o → o < 2) → bs.length ≤ 2 → (v.kd ≠ 2 → bs = []) → k' ≤ k + 10 → wpAny (Mw w) A (execs (b_396.drop 7) (eS L)) K E (St σ h' tk')) :
    wpAny (Mw w) A (execs (b_396.drop 6) (eS L)) K E (St σ h tk) := by
  obtain ⟨tkd, lkd⟩ := S.kind
  have ltp := S.tape
  refine wpAny_execs_cons (cutS (fun s' => ∃ h' tk' ls' k' kg bs, s' = St σ h' tk' ∧ Sel w σ h0 L hz tp nm h' ls' k' rl { v with key := if kg.isSome then "K" else v.key, al := altP' 0 bs, rows := v.rows ++ optR kg keyT ++ altR 0 bs } ∧ kg.isSome = decide (v.kd = 2) ∧ (∀ o, kg = some o → o < 2) ∧ bs.length ≤ 2 ∧ (v.kd ≠ 2 → bs = []) ∧ k' ≤ k + 10) ?_ ?_)
  · refine wpAny_If (wpAny_isTrue_Compare1 (n_ S.B (wpAny_Constant_str (eq_str (wpAny_truthy_bool ?_)))))
    rw [kinds_eq2 v.kd h3]
    cases hkd : (v.kd == 2) with
    | false =>
      have hne : v.kd ≠ 2 := by simpa using hkd
      refine wpAny_execs_nil ⟨rfl, h, _, ls, k, none, [], rfl, ?_, by simp [hne], (fun _ q => nomatch q), Nat.zero_le _, (fun _ => rfl), by omega⟩
      have e : ({ v with key := if (none : Option Nat).isSome then "K" else v.key, al := altP' 0 [], rows := v.rows ++ optR none keyT ++ altR 0 [] } : SV) = v := by
        obtain ⟨a, b, c, d, e, f, g, i⟩ := v
        have hal : g = [] := hal
        subst hal
        simp [optR, altR, altP']
      rw [e]; exact S
    | true =>
      have he : v.kd = 2 := by simpa using hkd
      refine wpAny_execs_cons (as_name (wpAny_Constant_str (s_ S.B fun h₂ tk₂ B₂ x₂ => ?_)))
      have S₂ := S.putKey B₂ x₂
      obtain ⟨vs, M, V⟩ := S₂.list
      have ltp2 := S₂.tape
      have lrw2 := S₂.rows
      refine wpAny_execs_cons (rowapp_ S₂.B M S₂.rL (S₂.few (by show v.rows.length ≤ 900; omega) V) (pick2_ S₂.B S₂.T (by omega) fun i0 t h₃ tk₃ hi0 B₃ x₃ T₃ => ⟨keyT i0, t, h₃, tk₃, rfl, rfl, B₃, pl_ext M x₃ (nin1 S₂.ne), fun h₄ tk₄ B₄ x₄ M₄ => ?_⟩))
      have S₄ := (S₂.draw B₃ x₃ T₃).app (pl_ext M x₃ (nin1 S₂.ne)) V B₄ x₄ M₄
      have ltp4 := S₄.tape
      refine wpAny_execs_cons (wpAny_For (Call_ (b_ S₄.B (gn_range w) (PyProof.Rows.callWith_type1 (args_cons (draw_ S₄.B S₄.T (by omega) fun j t₅ h₅ tk₅ B₅ x₅ T₅ j1 j2 => args_nil (call_range_1 ?_)))))))
      have S₅ := S₄.draw B₅ x₅ T₅
      obtain ⟨n, rfl⟩ := Int.eq_ofNat_of_zero_le j1
      have hn : n < 3 := by omega
      obtain ⟨hs1, hs2⟩ := range_sz n hn
      generalize hro : ({ cls := .type "range", data := .fields #[.int 0 tk₅, .int (n : Int) t₅, .int 1 (tk₅ + 1)] } : Obj) = ro
      have S₆ := S₅.keep (S₅.B.push ro) (Ext.push h₅ ro)
      have hR : IsRange (h₅.push ro) h₅.objs.size 0 (n : Int) 1 tk₅ t₅ (tk₅ + 1) := by rw [← hro]; exact Heap.get?_push_size _ rfl
      refine wpAny_pyIter_range hR hs2 ?_
      rw [hs1]
      generalize hio : ({ cls := .type "range_iterator", data := .fields #[rawInt 0, rawInt (n : Int), rawInt 1] } : Obj) = io
      have S₇ := S₆.keep (S₆.B.push io) (Ext.push (h₅.push ro) io)
      have hit0 : IsRangeIter ((h₅.push ro).push io) (h₅.push ro).objs.size 0 (n : Int) 1 := by rw [← hio]; exact Heap.get?_push_size _ rfl
      generalize hz7 : (h₅.push ro).push io = h₇ at *
      generalize hit : (h₅.push ro).objs.size = it at *
      have hLit : L < it := hit ▸ S₆.B.Llt
      have hrit : rl ≠ it := by obtain ⟨vs, a, _⟩ := S₇.list; exact ri_list hit0 (pl_isList a)
      have htit : tp ≠ it := by obtain ⟨_, a⟩ := S₇.T.list; exact ri_list hit0 a
      have e0 : ({ v with key := "K", rows := v.rows ++ [keyT i0] } : SV) = { v with key := "K", al := altP' 0 [], rows := (v.rows ++ [keyT i0]) ++ altR 0 [] } := by
        obtain ⟨a, b, c, d, e, f, g, i⟩ := v
        have hal : g = [] := hal
        subst hal
        simp [altR, altP']
      refine for_range (σ := σ) (it := it) (fun i h' => ∃ ls' bs, Sel w σ h0 L hz tp nm h' ls' (k + 2 + i) rl { v with key := "K", al := altP' 0 bs, rows := (v.rows ++ [keyT i0]) ++ altR 0 bs } ∧ bs.length = i ∧ IsRangeIter h' it (i : Int) ((n : Int) - (i : Int)) 1) n ok.hd
        ⟨_, [], e0 ▸ S₇, rfl, by simpa using hit0⟩ fun i h₈ tk₈ P hi => ?_
      obtain ⟨ls', bs, S₈, hb, hit8⟩ := P
      have hD : ∀ y ∈ [it], y ∈ [tp] ∨ L < y := fun y m => one_mem m (.inr hLit)
      refine ⟨hit8, fun e h₉ x9 => ?_, fun u E' hlt h₉ x9 hit9 => ?_⟩
      · have S₉ := S₈.iter hit8 (S₈.B.ext x9 hD) x9
        refine wpAny_execs_nil ⟨rfl, h₉, tk₈, ls', k + 2 + i, some i0, bs, rfl, S₉, by simp [he], (fun o q => by cases q; exact hi0), by omega, (fun q => absurd he q), by omega⟩
      · have S₉ := S₈.iter hit8 (S₈.B.ext x9 hD) x9
        refine s_ S₉.B fun h₁ tk₁ B₁ x1 => ?_
        have S₁ := S₉.put B₁ x1
        have hit1 : IsRangeIter h₁ it _ _ _ := x1 _ _ hit9 (nin1 (Nat.ne_of_gt hLit))
        refine sel7_turn (vk := { v with key := "K", rows := v.rows ++ [keyT i0] }) (bs := bs) S₁ ok (by omega) (by show (v.rows ++ [keyT i0]).length ≤ 100; simp; omega) (by omega) hb (look_here _ _ _) (fun h₂ tk₂ ls₂ b S₂ x2 => ⟨by walk_at "SM", ls₂, bs ++ [b], S₂, by simp [hb], x2 _ _ hit1 fun m => ?_⟩) rfl rfl
        rcases List.mem_cons.mp m with e | m
        · exact Nat.ne_of_gt hLit e
        · rcases List.mem_cons.mp m with e | m
          · exact htit e.symm
          · rcases List.mem_cons.mp m with e | m
            · exact hrit e.symm
            · cases m
  · rintro s' ⟨h', tk', ls', k', kg, bs, rfl, S', a, b, c, d, e⟩
    exact next h' tk' ls' k' kg bs S' a b c d e
end
theorem strs_drop {vs : List Value} {ys : List Str} (P : StrsAre vs ys) : ∀ k, StrsAre (vs.drop k) (ys.drop k) := by
  induction P with
  | nil => intro k; rw [List.drop_nil, List.drop_nil]; exact .nil
  | cons x t h ih =>
    intro k
    cases k with
    | zero => exact .cons x t h
    | succ k => exact ih k
theorem strs_take {vs : List Value} {ys : List Str} (P : StrsAre vs ys) : ∀ k, StrsAre (vs.take k) (ys.take k) := by
  induction P with
  | nil => intro k; rw [List.take_nil, List.take_nil]; exact .nil
  | cons x t h ih =>
    intro k
    cases k with
    | zero => exact .nil
    | succ k => exact .cons x t (ih k)
theorem strs_app {vs ws : List Value} {ys zs : List Str} (P : StrsAre vs ys) (Q : StrsAre ws zs) : StrsAre (vs ++ ws) (ys ++ zs) := by
  induction P with
  | nil => exact Q
  | cons x t _ ih => exact .cons x t ih
theorem sum_le : ∀ {l : List Str}, (∀ x ∈ l, x.length ≤ 100) → (l.map (·.length)).sum ≤ 100 * l.length
  | [], _ => Nat.zero_le _
  | x :: r, h => by
    have h1 := h x (.head _)
    have h2 := sum_le (l := r) fun y m => h y (.tail _ m)
    rw [List.map_cons, List.sum_cons, List.length_cons]
    omega
theorem fresh_ne {h : Heap} {a b : Addr} {o : Obj} (f : h.get? a = none) (e : h.get? b = some o) : a ≠ b := by
  rintro rfl
  rw [f] at e; cases e
theorem size_fresh (h : Heap) : h.get? h.objs.size = none := by
  cases q : h.get? h.objs.size with
  | none => rfl
  | some o => exact absurd (Heap.lt_size q) (Nat.lt_irrefl _)
section
variable {w : World} {A : Around} {E : Value → Shared → Prop} {s σ : Shared} {D : List Addr} {h0 hz : Heap} {L : Addr} {ls : List (Str × Value)}
/-- lists added -/
theorem addl_ {l b : Addr} {vs ws : List Value} {Q : Value → Shared → Prop} (B : Bd w D σ h0 L hz s.heap ls) (hl : s.heap.IsList l vs.toArray) (hb : s.heap.IsList b ws.toArray)
    (h : ∀ a h' tk', Bd w D σ h0 L hz h' ls → Ext [L] s.heap h' → s.heap.get? a = none → h'.PlainList a (vs ++ ws).toArray → Q (.ref a) (St σ h' tk')) (hsz : vs.length + ws.length ≤ 100000) (S : Same σ s := by walk_at "SM") :
    wpAny (Mw w) A (binaryOp .Add (.ref l) (.ref b)) Q E s := by
  refine add_lists B.FL (newsL _ _) hl hb (fun h' F N => ?_) (by rw [sizeLine_eq]; omega)
  obtain ⟨B', x⟩ := B.back F N fun p m => .tail _ m
  have := h s.heap.objs.size h' s.toks B' x (size_fresh _) ⟨_, (N _ (.head _)).1⟩
  rwa [← S.st h' s.toks] at this
/-- l[i:] and l[:i] -/
theorem slicel_ {l : Addr} {items : Array Value} {vl vu : Value} {lo hi : Option Int} {value slice : PySem.Expr} {Q : Value → Shared → Prop} (B : Bd w D σ h0 L hz s.heap ls) (hl : s.heap.IsList l items) (pl : IsPart vl lo) (pu : IsPart vu hi)
    (h : ∀ a h' tk', Bd w D σ h0 L hz h' ls → Ext [L] s.heap h' → s.heap.get? a = none → h'.PlainList a (slicePick items lo hi none) → Q (.ref a) (St σ h' tk')) (hsz : items.size ≤ 100000) (S : Same σ s := by walk_at "SM")
    (hs : subscripted slice false (.ref l) (.ref s.heap.objs.size) = operate [.ref s.heap.objs.size, .ref l] (getItem (.ref l) (.ref s.heap.objs.size)) := by with_unfolding_all rfl)
    (ht : ∀ r, letTemporaryGo value (.ref l) r = pure () := by intro _; with_unfolding_all rfl) :
    wpAny (Mw w) A (subscriptTail value slice (.ref l) (.ref s.heap.objs.size)) Q E { s with heap := s.heap.push { cls := .type "slice", data := .fields #[vl, vu, .none] } } := by
  refine slice_list B.FL (newsL _ _) hl pl pu (fun h' F N => ?_) hs ht (by rw [sizeLine_eq]; omega)
  obtain ⟨B', x⟩ := B.back F N fun p m => .tail _ m
  have hf : s.heap.get? (s.heap.objs.size + 1) = none := by
    cases q : s.heap.get? (s.heap.objs.size + 1) with
    | none => rfl
    | some o => exact absurd (Heap.lt_size q) (Nat.not_lt.mpr (Nat.le_succ _))
  have := h (s.heap.objs.size + 1) h' s.toks B' x hf ⟨_, (N _ (.head _)).1⟩
  rwa [← S.st h' s.toks] at this
end
noncomputable def rotL (r : Nat) (l : List Str) : List Str := l.drop r ++ l.take r
noncomputable def restL (rows : List Str) : List Str := rows.filter fun x => !isAlt x
noncomputable def altL (rows : List Str) : List Str := rows.filter isAlt
noncomputable def selTxt (nm : Str) (rows : List Str) (r : Nat) (opt : Bool) : Str := ("SELECT " : Str) ++ (if opt then "OPTIONAL " else "" : Str) ++ nm ++ " " ++ Txt.join " " (rotL r (restL rows) ++ altL rows) ++ " . "
section
variable {w : World} {A : Around} {K : Flow → Shared → Prop} {E : Value → Shared → Prop} {σ : Shared} {h0 hz h h' : Heap} {L tp rl : Addr} {ls : List (Str × Value)} {nm : Str} {k k' : Nat} {v : SV}
theorem sel10 {tk : Tok} (S : Sel w σ h0 L hz tp nm h ls k rl v) (ok : Ok A 2) (hk : k ≤ 50000) (hr1 : 1 ≤ v.rows.length) (hr : v.rows.length ≤ 20) (hrl : ∀ x ∈ v.rows, x.length ≤ 100) (hrest : 1 ≤ (restL v.rows).length) (hnm : nm.length ≤ 10)
    (next : ∀ a b h' tk' r opt tt k' ls', Bd w [tp] σ h0 L hz h' ls' → IsTup h' a [Value.str (selTxt nm v.rows r opt) tt, .ref b].toArray → Told h' b ⟨nm, pathV v.p, kinds v.kd, accs v.ac, v.key, v.al, v.rel, v.st⟩ → Tape h' tp k' → k' ≤ k + 2 → r < (restL v.rows).length → K (.ret (.ref a)) (St σ h' tk')) :
    wpAny (Mw w) A (execs (b_396.drop 9) (eS L)) K E (St σ h tk) := by
  have ltp := S.tape
  have lrw := S.rows
  obtain ⟨vs, M, V⟩ := S.list
  have hvs := strs_length V
  refine wpAny_execs_cons (as_name (f2_ S.B (gl__law_draw w) (kp__law_draw w) (n_ S.B (Call_ (b_ S.B (gn_len w) (PyProof.Rows.callWith_builtin1 (args_cons (n_ S.B (args_nil (call_len_list (pl_isList M) (by simp; omega) ?_))))))))))
  refine ⟨⟨_, S.B.F⟩, S.B.use (law_draw_c S.B.G1 S.T (by omega) (by simp; omega)) fun q h₁ tk₁ B₁ x₁ p => ?_⟩
  obtain ⟨⟨turn, tt, rfl, ht1, ht2⟩, T₁⟩ := p
  have S₁ := S.draw B₁ x₁ T₁
  refine s_ S₁.B fun h₂ tk₂ B₂ x₂ => ?_
  have S₂ := S₁.put B₂ x₂
  obtain ⟨vs₂, M₂, V₂⟩ := S₂.list
  have hl2 := strs_length V₂
  have lrw₂ := S₂.rows
  refine wpAny_execs_cons (sel_comp isAlt S₂.B M₂ V₂ (by omega) (Nat.ne_of_gt S₂.rL) (fun C x t s₃ m₃ E' m hns hm => row_testE (by have := hrl x m; omega) hns hm) fun aa h₃ tk₃ wa B₃ x₃ fa Ma Va => ?_)
  have S₃ := S₂.put B₃ x₃
  obtain ⟨vs₃, M₃, V₃⟩ := S₃.list
  have hl3 := strs_length V₃
  have lrw₃ := S₃.rows
  have lal₃ := look_here ls "alternates" (.ref aa)
  have haL : aa ≠ L := by obtain ⟨o, _, _, e, _⟩ := S₂.B.F.ns; exact fresh_ne (h := h₂) fa e
  have hat : aa ≠ tp := by obtain ⟨_, o, e, _⟩ := S₂.T.list; exact fresh_ne (h := h₂) fa e
  refine wpAny_execs_cons (sel_comp (fun x => !isAlt x) S₃.B M₃ V₃ (by omega) (Nat.ne_of_gt S₃.rL) (fun C x t s₃ m₃ E' m hns hm => row_testN (by have := hrl x m; omega) hns hm) fun ra h₄ tk₄ wr B₄ x₄ fr Mr Vr => ?_)
  have S₄ := S₃.put B₄ x₄
  have Ma₄ := pl_ext Ma x₄ (nin1 haL)
  have hrL : ra ≠ L := by obtain ⟨o, _, _, e, _⟩ := S₃.B.F.ns; exact fresh_ne (h := h₃) fr e
  have hwr : wr.length = (restL v.rows).length := strs_length Vr
  have hrc : (restL v.rows).length ≤ 20 := Nat.le_trans (List.length_filter_le _ _) hr
  have lturn : look (("rest", .ref ra) :: ("alternates", .ref aa) :: ("turn", .int turn tt) :: ls) "turn" = some (.int turn tt) := look_skip (look_skip (look_here _ _ _) (by decide +kernel)) (by decide +kernel)
  obtain ⟨f1, f2⟩ := fmod_in (a := turn) (m := (wr.length : Int)) (by omega)
  obtain ⟨r, hre⟩ := Int.eq_ofNat_of_zero_le f1
  have hrlt : r < wr.length := by omega
  have hwz : ((wr.toArray.size : Nat) : Int) ≠ 0 := by
    have : wr.toArray.size = wr.length := by simp
    omega
  -- turn % len(rest)
  have tm : ∀ {Q : Value → Shared → Prop} {hh t0 a b c d e g}, Bd w [tp] σ h0 L hz hh (("rest", .ref ra) :: ("alternates", .ref aa) :: ("turn", .int turn tt) :: ls) → hh.PlainList ra wr.toArray → (∀ t', Q (.int (r : Int) t') (St σ hh (t' + 1))) →
      wpAny (Mw w) A (eval (.BinOp (.Name "turn" a) .Mod (.Call (.Name "len" b) [.Name "rest" c] [] d) e) (eS L)) Q g (St σ hh t0) := fun {Q hh t0 a b c d e g} B' M' q => by
    refine wpAny_BinOp (n_ B' (v := .int turn tt) (Call_ (b_ B' (gn_len w) (PyProof.Rows.callWith_builtin1 (args_cons (n_ B' (v := .ref ra) (args_nil (call_len_list (pl_isList M') (by simp; omega) (mod_int' hwz ?_)))))))))
    have e1 : turn.fmod ((wr.toArray.size : Nat) : Int) = (r : Int) := by rw [← hre]; simp
    rw [e1]
    exact q _
  refine wpAny_execs_cons (as_name (wpAny_BinOp (Subscript_ (n_ S₄.B (v := .ref ra) (wpAny_Slice (evalPart_some_step (tm S₄.B Mr fun t₁ => evalPart_none_step (evalPart_none_step ?_))))))))
  refine slicel_ (s := St σ h₄ (t₁ + 1)) S₄.B (pl_isList Mr) (.int _ _) .none (fun a1 h₅ tk₅ B₅ x₅ f₅ M₅ => ?_) (by simp; omega)
  have S₅ := S₄.dict B₅ x₅
  have Mr₅ := pl_ext Mr x₅ (nin1 hrL)
  have Ma₅ := pl_ext Ma₄ x₅ (nin1 haL)
  have ha1L : a1 ≠ L := by obtain ⟨o, _, _, e, _⟩ := S₄.B.F.ns; exact fresh_ne (h := h₄) f₅ e
  refine Subscript_ (n_ S₅.B (v := .ref ra) (wpAny_Slice (evalPart_none_step (evalPart_some_step (tm S₅.B Mr₅ fun t₂ => evalPart_none_step ?_)))))
  refine slicel_ (s := St σ h₅ (t₂ + 1)) S₅.B (pl_isList Mr₅) .none (.int _ _) (fun a2 h₆ tk₆ B₆ x₆ f₆ M₆ => ?_) (by simp; omega)
  have S₆ := S₅.dict B₆ x₆
  have M₅' := pl_ext M₅ x₆ (nin1 ha1L)
  have Ma₆ := pl_ext Ma₅ x₆ (nin1 haL)
  rw [slicePick_from'] at M₅'
  rw [slicePick_upto'] at M₆
  refine addl_ S₆.B (pl_isList M₅') (pl_isList M₆) (fun a3 h₇ tk₇ B₇ x₇ f₇ M₇ => ?_) (by simp; omega)
  have S₇ := S₆.dict B₇ x₇
  have Ma₇ := pl_ext Ma₆ x₇ (nin1 haL)
  have ha3L : a3 ≠ L := by obtain ⟨o, _, _, e, _⟩ := S₆.B.F.ns; exact fresh_ne (h := h₆) f₇ e
  have ha3t : a3 ≠ tp := by obtain ⟨_, o, e, _⟩ := S₆.T.list; exact fresh_ne (h := h₆) f₇ e
  have V₇ : StrsAre (wr.drop r ++ wr.take r) (rotL r (restL v.rows)) := strs_app (strs_drop Vr r) (strs_take Vr r)
  have M₇ : h₇.PlainList a3 (wr.drop r ++ wr.take r).toArray := by simpa using M₇
  clear M₅ M₅' M₆ tm
  refine s_ S₇.B fun h₈ tk₈ B₈ x₈ => ?_
  have S₈ := S₇.put B₈ x₈
  have Ma₈ := pl_ext Ma₇ x₈ (nin1 haL)
  have M₈ := pl_ext M₇ x₈ (nin1 ha3L)
  have hcnt : (wr.drop r ++ wr.take r).length ≤ 40 := by simp; omega
  have hca : wa.length ≤ 20 := by rw [strs_length Va]; exact Nat.le_trans (List.length_filter_le _ _) hr
  generalize hlsX : (("rest", .ref a3) :: ("rest", .ref ra) :: ("alternates", .ref aa) :: ("turn", .int turn tt) :: ls : List (Str × Value)) = lsX at *
  have lrest : look lsX "rest" = some (.ref a3) := by rw [← hlsX]; exact look_here _ _ _
  have lalt : look lsX "alternates" = some (.ref aa) := by rw [← hlsX]; exact look_skip (look_skip (look_here _ _ _) (by decide +kernel)) (by decide +kernel)
  have ltp₈ := S₈.tape
  obtain ⟨tn, ln⟩ := S₈.name
  refine wpAny_execs_cons (as_name (wpAny_BinOp (wpAny_BinOp (mono_q (fun v' s' => ∃ (opt : Bool) (t : Tok) (h₉ : Heap) (tk₉ : Tok), v' = Value.str (("SELECT " : Str) ++ (if opt then "OPTIONAL " else "" : Str) ++ nm ++ " ") t ∧ s' = St σ h₉ tk₉ ∧ Sel w σ h0 L hz tp nm h₉ lsX (k + 2) rl v ∧ h₉.PlainList a3 (wr.drop r ++ wr.take r).toArray ∧ h₉.PlainList aa wa.toArray) ?_ ?_))))
  · refine wpAny_BinOp (wpAny_BinOp (wpAny_BinOp (wpAny_Constant_str (mono_q (fun v' s' => ∃ (opt : Bool) (t : Tok) (h₉ : Heap) (tk₉ : Tok), v' = Value.str (if opt then "OPTIONAL " else "" : Str) t ∧ s' = St σ h₉ tk₉ ∧ Sel w σ h0 L hz tp nm h₉ lsX (k + 2) rl v ∧ h₉.PlainList a3 (wr.drop r ++ wr.take r).toArray ∧ h₉.PlainList aa wa.toArray) ?_ ?_))))
    · refine wpAny_IfExp (flip_ S₈.B S₈.T (by omega) fun b h₉ tk₉ B₉ x₉ T₉ => ?_)
      have S₉ := S₈.draw B₉ x₉ T₉
      have M₉ := pl_ext M₈ x₉ (nin1 ha3t)
      have Ma₉ := pl_ext Ma₈ x₉ (nin1 hat)
      cases b with
      | true => exact wpAny_Constant_str ⟨true, _, h₉, _, rfl, rfl, S₉, M₉, Ma₉⟩
      | false => exact wpAny_Constant_str ⟨false, _, h₉, _, rfl, rfl, S₉, M₉, Ma₉⟩
    · rintro v' s' ⟨opt, t, h₉, tk₉, rfl, rfl, S₉, M₉, Ma₉⟩
      have ho : (if opt then "OPTIONAL " else "" : Str).length ≤ 9 := by cases opt <;> decide +kernel
      refine add_str (fun t1 k1 => n_ S₉.B (v := .str nm tn) (add_str (fun t2 k2 => wpAny_Constant_str (add_str (fun t3 k3 => ⟨opt, t3, h₉, k3, rfl, rfl, S₉, M₉, Ma₉⟩) ?_)) ?_)) ?_
      · rw [sizeLine_eq, Str.length_append, Str.length_append, show ("SELECT " : Str).length = 7 from rfl, show (" " : Str).length = 1 from rfl]; omega
      · rw [sizeLine_eq, Str.length_append, show ("SELECT " : Str).length = 7 from rfl]; omega
      · rw [sizeLine_eq, show ("SELECT " : Str).length = 7 from rfl]; omega
  rintro v' s' ⟨opt, t, h₉, tk₉, rfl, rfl, S₉, M₉, Ma₉⟩
  have ho : (if opt then "OPTIONAL " else "" : Str).length ≤ 9 := by cases opt <;> decide +kernel
  generalize hP1 : ("SELECT " : Str) ++ (if opt then "OPTIONAL " else "" : Str) ++ nm ++ " " = P1 at *
  have hP1l : P1.length ≤ 27 := by
    rw [← hP1, Str.length_append, Str.length_append, Str.length_append, show ("SELECT " : Str).length = 7 from rfl, show (" " : Str).length = 1 from rfl]; omega
  have hys : ∀ x ∈ rotL r (restL v.rows) ++ altL v.rows, x.length ≤ 100 := fun x m => by
    rcases List.mem_append.mp m with m | m
    · rcases List.mem_append.mp m with m | m
      · exact hrl x ((List.mem_filter.mp (List.mem_of_mem_drop m)).1)
      · exact hrl x ((List.mem_filter.mp (List.mem_of_mem_take m)).1)
    · exact hrl x ((List.mem_filter.mp m).1)
  have hyn : (rotL r (restL v.rows) ++ altL v.rows).length ≤ 60 := by
    have h1 := strs_length (strs_app V₇ Va)
    have : (rotL r (restL v.rows) ++ altL v.rows).length = (wr.drop r ++ wr.take r ++ wa).length := h1.symm
    rw [this, List.length_append]; omega
  have hsum := sum_le hys
  have hjl : (Txt.join " " (rotL r (restL v.rows) ++ altL v.rows)).length ≤ 6100 := by
    have e : Txt.join " " (rotL r (restL v.rows) ++ altL v.rows) = Str.join " " (rotL r (restL v.rows) ++ altL v.rows) := StrLaws.glued_eq_join _ _
    rw [e]
    have := StrLaws.join_length_le " " (rotL r (restL v.rows) ++ altL v.rows)
    rw [show (" " : Str).length = 1 from rfl] at this
    omega
  refine bm_ PySem.F.plainAttrs_str PySem.F.slot_str_join PySem.F.type_str_join (wpAny_Constant_str ⟨typeIs_str _ _ _, fun _ e => (nomatch e), wpAny_BinOp (n_ S₉.B (v := .ref a3) (n_ S₉.B (v := .ref aa) ?_))⟩)
  refine addl_ (s := St σ h₉ _) S₉.B (pl_isList M₉) (pl_isList Ma₉) (fun a4 h₁ tk₁ B₁ x₁ f₁ M₁ => ?_) (by omega)
  have S₁' := S₉.dict B₁ x₁
  refine join_list (ys := rotL r (restL v.rows) ++ altL v.rows) (pl_isList M₁) (by simpa [altL] using strs_app V₇ Va) (by rw [show (" " : Str).length = 1 from rfl]; omega) fun t1 k1 => ?_
  refine add_str (fun t2 k2 => wpAny_Constant_str (add_str (fun t3 k3 => ?_) ?_)) ?_
  · refine s_ S₁'.B fun h₂ tk₂ B₂ x₂ => ?_
    have S₂' := S₁'.put B₂ x₂
    obtain ⟨ot, lo, hal⟩ := S₂'.others
    obtain ⟨tn, ln⟩ := S₂'.name
    obtain ⟨tpa, lpa⟩ := S₂'.path
    obtain ⟨tki, lki⟩ := S₂'.kind
    obtain ⟨tac, lac⟩ := S₂'.access
    obtain ⟨tke, lke⟩ := S₂'.key
    obtain ⟨tre, lre⟩ := S₂'.relative
    obtain ⟨tst, lst⟩ := S₂'.status
    refine wpAny_execs_cons (wpAny_Return_some (wpAny_Tuple (args_cons (n_ S₂'.B (v := .str (P1 ++ Txt.join " " (rotL r (restL v.rows) ++ altL v.rows) ++ " . ") t3) (args_cons (wpAny_Tuple (args_cons (n_ S₂'.B (args_cons (n_ S₂'.B (args_cons (n_ S₂'.B (args_cons (n_ S₂'.B (args_cons (n_ S₂'.B (args_cons (n_ S₂'.B (args_cons (n_ S₂'.B (args_cons (n_ S₂'.B (args_cons (wpAny_Constant_bool (args_cons (wpAny_Tuple (args_nil ⟨Nat.zero_le _, args_nil ⟨szl rfl, args_nil ⟨szl rfl, ?_⟩⟩⟩)))))))))))))))))))))))))))
    generalize hp0 : ({ cls := .type "tuple", data := .seq ([] : List Value).toArray } : Obj) = o0
    generalize hp1 : ({ cls := .type "tuple", data := .seq [Value.str nm tn, .str (pathV v.p) tpa, .str (kinds v.kd) tki, .str (accs v.ac) tac, .str v.key tke, .ref ot, .str v.rel tre, .str v.st tst, .bool false, .ref h₂.objs.size].toArray } : Obj) = o1
    generalize hp2 : ({ cls := .type "tuple", data := .seq [Value.str (P1 ++ Txt.join " " (rotL r (restL v.rows) ++ altL v.rows) ++ " . ") t3, .ref (h₂.push o0).objs.size].toArray } : Obj) = o2
    have B₃ := ((S₂'.B.push o0).push o1).push o2
    have x3 : Ext [] h₂ (((h₂.push o0).push o1).push o2) := ((Ext.push _ _).trans (Ext.push _ _)).trans (Ext.push _ _)
    have g0 : IsTup (((h₂.push o0).push o1).push o2) h₂.objs.size #[] := ⟨o0, Heap.get?_push_of_some _ (Heap.get?_push_of_some _ (Heap.get?_push_size _ (by rw [← hp0]; rfl))), by rw [← hp0], 0, by rw [← hp0]⟩
    have g1 : IsTup (((h₂.push o0).push o1).push o2) (h₂.push o0).objs.size [Value.str nm tn, .str (pathV v.p) tpa, .str (kinds v.kd) tki, .str (accs v.ac) tac, .str v.key tke, .ref ot, .str v.rel tre, .str v.st tst, .bool false, .ref h₂.objs.size].toArray := ⟨o1, Heap.get?_push_of_some _ (Heap.get?_push_size _ (by rw [← hp1]; rfl)), by rw [← hp1], 0, by rw [← hp1]⟩
    have g2 : IsTup (((h₂.push o0).push o1).push o2) ((h₂.push o0).push o1).objs.size [Value.str (P1 ++ Txt.join " " (rotL r (restL v.rows) ++ altL v.rows) ++ " . ") t3, .ref (h₂.push o0).objs.size].toArray := ⟨o2, Heap.get?_push_size _ (by rw [← hp2]; rfl), by rw [← hp2], 0, by rw [← hp2]⟩
    rw [← hP1] at g2
    exact next _ _ _ _ r opt t3 (k + 2) _ B₃ g2 ⟨_, _, _, _, _, _, _, _, _, g1, hal.ext x3 nil_mem, g0⟩ (S₂'.T.keeps x3) (Nat.le_refl _) (hwr ▸ hrlt)
  · rw [sizeLine_eq, Str.length_append, show (" . " : Str).length = 3 from rfl]; omega
  · rw [sizeLine_eq]; omega
end
section
variable {w : World} {A : Around} {K : Flow → Shared → Prop} {E : Value → Shared → Prop} {σ : Shared} {h0 hz h h' : Heap} {L tp rl : Addr} {ls : List (Str × Value)} {nm : Str} {k k' : Nat} {v : SV}
theorem isAlt_path (p : Nat) : isAlt (pathT p) = false := by unfold pathT sel3; split <;> decide +kernel
/-- stages 5 to 15 -/
theorem sel_all {tk : Tok} {kd ac p : Nat} (S : Sel w σ h0 L hz tp nm h ls k rl ⟨kd, ac, p, "", "", "", [], [pathT p]⟩) (ok : Ok A 2) (hk : k ≤ 30000) (h3 : kd < 3) (a3 : ac < 3) (p3 : p < 3) (ka : kd = 0 → ac = 0) (hnm : nm.length ≤ 10)
    (next : ∀ a b h' tk' (d : Dr) r opt tt k' ls', d.Ok → Bd w [tp] σ h0 L hz h' ls' → IsTup h' a [Value.str (selTxt nm d.rows r opt) tt, .ref b].toArray → Told h' b (selSpec nm d) → Tape h' tp k' → k' ≤ k + 30 → r < (restL d.rows).length → K (.ret (.ref a)) (St σ h' tk')) :
    wpAny (Mw w) A (execs (b_396.drop 4) (eS L)) K E (St σ h tk) := by
  refine sel5 S ok (by omega) (by simp) fun h₁ tk₁ k₁ og S₁ o1 o2 hk₁ => ?_
  have c1 := optR_count og (orgT kd)
  refine sel6 S₁ ok (by omega) (by simp; omega) fun h₂ tk₂ k₂ ag S₂ q1 q2 hk₂ => ?_
  have c2 := optR_count ag (accT ac)
  refine sel7 S₂ ok (by omega) (by simp; omega) h3 rfl fun h₃ tk₃ ls₃ k₃ kg bs S₃ r1 r2 r3 r4 hk₃ => ?_
  have c3 := optR_count kg keyT
  have c4 := altR_count bs 0
  refine sel8 S₃ ok (by omega) (by simp; omega) h3 fun h₄ tk₄ ls₄ k₄ rg S₄ s1 s2 s3 hk₄ => ?_
  have c5 := optR_count rg relT
  refine sel9 S₄ ok (by omega) (by simp; omega) fun h₅ tk₅ ls₅ k₅ sg S₅ t1 hk₅ => ?_
  have d := (⟨kd, ac, p, og, ag, kg, bs, rg, sg⟩ : Dr)
  have hd : (⟨kd, ac, p, og, ag, kg, bs, rg, sg⟩ : Dr).Ok := ⟨h3, a3, p3, ka, o1, o2, q1, q2, r1, r2, r3, r4, s1, s2, s3, t1⟩
  have hrows : ([pathT p] ++ optR og (orgT kd) ++ optR ag (accT ac) ++ optR kg keyT ++ altR 0 bs ++ optR rg relT ++ optR sg stT) = (⟨kd, ac, p, og, ag, kg, bs, rg, sg⟩ : Dr).rows := rfl
  have hc := rows_count (⟨kd, ac, p, og, ag, kg, bs, rg, sg⟩ : Dr)
  have hc2 : (⟨kd, ac, p, og, ag, kg, bs, rg, sg⟩ : Dr).rows.length ≤ 6 + bs.length := hc.2
  have hrest : 1 ≤ (restL (⟨kd, ac, p, og, ag, kg, bs, rg, sg⟩ : Dr).rows).length := by
    refine List.length_pos_iff.mpr (List.ne_nil_of_mem (a := pathT p) (List.mem_filter.mpr ⟨?_, by rw [isAlt_path]; rfl⟩))
    rw [← hrows]; simp
  refine sel10 S₅ ok (by omega) hc.1 (by show (⟨kd, ac, p, og, ag, kg, bs, rg, sg⟩ : Dr).rows.length ≤ 20; omega) (rows_len ⟨kd, ac, p, og, ag, kg, bs, rg, sg⟩) hrest hnm fun a b h' tk' r opt tt k' ls' B' g1 g2 T' hk' hr => ?_
  exact next a b h' tk' ⟨kd, ac, p, og, ag, kg, bs, rg, sg⟩ r opt tt k' ls' hd B' g1 g2 T' (by omega) hr
/-- the assigned expression out of sight -/
theorem hideE {w : World} {A : Around} {s : Shared} {E : Value → Shared → Prop} {Q : Flow → Shared → Prop} {ts : List Expr} {e : Expr} {p : Pos} {rest : List Stmt} {env : Env} (h : ∀ ex, ex = e → wpAny (Mw w) A (execs (.Assign ts ex p :: rest) env) Q E s) : wpAny (Mw w) A (execs (.Assign ts e p :: rest) env) Q E s := h e rfl
theorem law_select_c {t : Tok} (G : G1 w h) (T : Tape h tp k) (hk : k ≤ 20000) (hnm : nm.length ≤ 10) :
    Calls w 3 396 [.ref tp, .str nm t] [tp] h (fun v h' => ∃ (a b : Addr) (d : Dr) (r : Nat) (opt : Bool) (tt : Tok) (k' : Nat), v = .ref a ∧ d.Ok ∧ IsTup h' a [Value.str (selTxt nm d.rows r opt) tt, .ref b].toArray ∧ Told h' b (selSpec nm d) ∧ Tape h' tp k' ∧ k' ≤ k + 40 ∧ r < (restL d.rows).length) := by
  refine Calls.mk (fs__law_select w _ _) G (fun d m => one_mem m (T.lt)) fun A s g tg hz L E ok B x0 => cutK fun K hK => ?_
  have htL : tp ≠ L := Nat.ne_of_lt (B.L0 ▸ T.lt.2)
  have T0 := T.keeps x0
  refine wpAny_execs_cons (as_name (pick3_ B T0 (by omega) fun kd t1 h₁ tk₁ hkd B₁ x₁ T₁ => s_ B₁ fun h₂ tk₂ B₂ x₂ => ?_))
  have T₂ := T₁.ext x₂ (one_dict B₁.isDict)
  refine wpAny_execs_cons (as_name (mono_q (fun v s' => ∃ (ac : Nat) (t9 : Tok) (h' : Heap) (tk' : Tok) (k' : Nat), v = Value.str (accs ac) t9 ∧ s' = St s h' tk' ∧ Bd w [tp] s h L hz h' [("kind", Value.str (kinds kd) t1), ("name", .str nm t), ("tape", .ref tp)] ∧ Tape h' tp k' ∧ k' ≤ k + 2 ∧ ac < 3 ∧ (kd = 0 → ac = 0)) ?_ ?_))
  · refine wpAny_IfExp (wpAny_isTrue_Compare1 (n_ B₂ (v := .str (kinds kd) t1) (wpAny_Constant_str (ne_str (wpAny_truthy_bool ?_)))))
    rw [kinds_ne]
    cases hk0 : (kd != 0) with
    | false => exact wpAny_Constant_str ⟨0, _, h₂, _, k + 1, rfl, rfl, B₂, T₂, by omega, by omega, fun _ => rfl⟩
    | true =>
      have : kd ≠ 0 := by simpa using hk0
      exact pick3_ B₂ T₂ (by omega) fun ac t2 h₃ tk₃ hac B₃ x₃ T₃ => ⟨ac, t2, h₃, tk₃, k + 2, rfl, rfl, B₃, T₃, Nat.le_refl _, hac, fun q => absurd q this⟩
  rintro v s' ⟨ac, t2, h₃, tk₃, k₃, rfl, rfl, B₃, T₃, hk₃, hac, hka⟩
  refine s_ B₃ fun h₄ tk₄ B₄ x₄ => ?_
  have T₄ := T₃.ext x₄ (one_dict B₃.isDict)
  -- path, spelt
  refine @hideE _ _ _ _ _ _ _ _ _ _ fun ex hx => ?_
  refine wpAny_execs_cons (Assign_Tuple (mono_q (fun v s' => ∃ (p : Nat) (a : Addr) (u1 u2 : Tok) (h' : Heap) (tk' : Tok), v = Value.ref a ∧ s' = St s h' tk' ∧ p < 3 ∧ IsTup h' a [Value.str (pathV p) u1, .str (pathT p) u2].toArray ∧ Bd w [tp] s h L hz h' [("access", Value.str (accs ac) t2), ("kind", Value.str (kinds kd) t1), ("name", .str nm t), ("tape", .ref tp)] ∧ Tape h' tp (k₃ + 1)) ?_ ?_) (by rw [hx]; rfl) (by rw [hx]; rfl))
  · rw [hx]
    refine Subscript_ (mono_q (fun v s' => ∃ (q a0 a1 a2 : Addr) (u0 u1 u2 u3 u4 u5 : Tok) (h' : Heap) (tk' : Tok), v = Value.ref q ∧ s' = St s h' tk' ∧ Ext [] h₄ h' ∧ IsTup h' q [Value.ref a0, .ref a1, .ref a2].toArray ∧ IsTup h' a0 [Value.str "p.dat" u0, .str "ASSIGN TO 'p.dat'" u1].toArray ∧ IsTup h' a1 [Value.str "DISK" u2, .str "ASSIGN DISK" u3].toArray ∧ IsTup h' a2 [Value.str "q" u4, .str "ASSIGN TO DISK 'q'" u5].toArray) ?_ ?_)
    · refine wpAny_Tuple (args_cons (wpAny_Tuple (args_cons (wpAny_Constant_str (args_cons (wpAny_Constant_str (args_nil ⟨szl rfl, ?_⟩)))))))
      generalize ho0 : ({ cls := .type "tuple", data := .seq [Value.str "p.dat" tk₄, .str "ASSIGN TO 'p.dat'" (tk₄ + 1)].toArray } : Obj) = o0
      have g0 : IsTup (h₄.push o0) h₄.objs.size [Value.str "p.dat" tk₄, .str "ASSIGN TO 'p.dat'" (tk₄ + 1)].toArray := ⟨o0, Heap.get?_push_size _ (by rw [← ho0]; rfl), by rw [← ho0], 0, by rw [← ho0]⟩
      have e0 : Ext [] h₄ (h₄.push o0) := Ext.push _ _
      generalize h₄.push o0 = q0 at *
      show wpAny _ _ _ _ _ (St s q0 (tk₄ + 1 + 1))
      generalize tk₄ + 1 + 1 = c0 at *
      refine args_cons (wpAny_Tuple (args_cons (wpAny_Constant_str (args_cons (wpAny_Constant_str (args_nil ⟨szl rfl, ?_⟩))))))
      generalize ho1 : ({ cls := .type "tuple", data := .seq [Value.str "DISK" c0, .str "ASSIGN DISK" (c0 + 1)].toArray } : Obj) = o1
      have g1 : IsTup (q0.push o1) q0.objs.size [Value.str "DISK" c0, .str "ASSIGN DISK" (c0 + 1)].toArray := ⟨o1, Heap.get?_push_size _ (by rw [← ho1]; rfl), by rw [← ho1], 0, by rw [← ho1]⟩
      have e1 : Ext [] q0 (q0.push o1) := Ext.push _ _
      generalize q0.push o1 = q1 at *
      show wpAny _ _ _ _ _ (St s q1 (c0 + 1 + 1))
      generalize c0 + 1 + 1 = c1 at *
      refine args_cons (wpAny_Tuple (args_cons (wpAny_Constant_str (args_cons (wpAny_Constant_str (args_nil ⟨szl rfl, args_nil ⟨szl rfl, ?_⟩⟩))))))
      generalize ho2 : ({ cls := .type "tuple", data := .seq [Value.str "q" c1, .str "ASSIGN TO DISK 'q'" (c1 + 1)].toArray } : Obj) = o2
      generalize ho3 : ({ cls := .type "tuple", data := .seq [Value.ref h₄.objs.size, .ref q0.objs.size, .ref q1.objs.size].toArray } : Obj) = o3
      have g2 : IsTup (q1.push o2) q1.objs.size [Value.str "q" c1, .str "ASSIGN TO DISK 'q'" (c1 + 1)].toArray := ⟨o2, Heap.get?_push_size _ (by rw [← ho2]; rfl), by rw [← ho2], 0, by rw [← ho2]⟩
      have g3 : IsTup ((q1.push o2).push o3) (q1.push o2).objs.size [Value.ref h₄.objs.size, .ref q0.objs.size, .ref q1.objs.size].toArray := ⟨o3, Heap.get?_push_size _ (by rw [← ho3]; rfl), by rw [← ho3], 0, by rw [← ho3]⟩
      have e2 : Ext [] q1 (q1.push o2) := Ext.push _ _
      have e3 : Ext [] (q1.push o2) ((q1.push o2).push o3) := Ext.push _ _
      exact ⟨_, _, _, _, _, _, _, _, _, _, _, _, rfl, rfl, ((e0.trans e1).trans e2).trans e3, g3, ((g0.keeps e1.keeps).keeps e2.keeps).keeps e3.keeps, (g1.keeps e2.keeps).keeps e3.keeps, g2.keeps e3.keeps⟩
    · rintro v s' ⟨q, a0, a1, a2, u0, u1, u2, u3, u4, u5, h₅, tk₅, rfl, rfl, x5, gq, g0, g1, g2⟩
      have B₅ := B₄.ext x5 nil_mem
      have T₅ := T₄.keeps x5
      obtain ⟨its, hli⟩ := T₅.list
      refine draw_ B₅ T₅ (by omega) fun i t3 h₆ tk₆ B₆ x₆ T₆ i1 i2 => ?_
      obtain ⟨n, rfl⟩ := Int.eq_ofNat_of_zero_le i1
      have hn : n < 3 := by omega
      have gq := tup_extI gq x₆ hli
      match n, hn with
      | 0, _ => exact tupitem_ gq (by decide) (by simp) (by simp) rfl ⟨0, a0, u0, u1, h₆, tk₆, rfl, rfl, by decide, tup_extI g0 x₆ hli, B₆, T₆⟩
      | 1, _ => exact tupitem_ gq (by decide) (by simp) (by simp) rfl ⟨1, a1, u2, u3, h₆, tk₆, rfl, rfl, by decide, tup_extI g1 x₆ hli, B₆, T₆⟩
      | 2, _ => exact tupitem_ gq (by decide) (by simp) (by simp) rfl ⟨2, a2, u4, u5, h₆, tk₆, rfl, rfl, by decide, tup_extI g2 x₆ hli, B₆, T₆⟩
  rintro v s' ⟨p, a, u1, u2, h₅, tk₅, rfl, rfl, hp, ht, B₅, T₅⟩
  clear hx ex
  refine assign_Tuple_tuple ok.hd ht rfl rfl fun h₆ he => ?_
  have x₆ : Ext [] h₅ h₆ := fun b o e _ => he b o (Nat.ne_of_lt (Heap.lt_size e)) e
  have B₆ := B₅.ext x₆ nil_mem
  have T₆ := T₅.keeps x₆
  refine assignInOrder_cons (PyProof.Rows.assign_Name (s_ B₆ fun h₇ tk₇ B₇ x₇ => assignInOrder_cons (PyProof.Rows.assign_Name (s_ B₇ fun h₈ tk₈ B₈ x₈ => assignInOrder_nil ?_))))
  have T₈ := (T₆.ext x₇ (one_dict B₆.isDict)).ext x₈ (one_dict B₇.isDict)
  have hl8 : look [("spelt", Value.str (pathT p) u2), ("path", Value.str (pathV p) u1), ("access", Value.str (accs ac) t2), ("kind", Value.str (kinds kd) t1), ("name", .str nm t), ("tape", .ref tp)] "spelt" = some (.str (pathT p) u2) := look_here _ _ _
  generalize hls : ([("spelt", Value.str (pathT p) u2), ("path", Value.str (pathV p) u1), ("access", Value.str (accs ac) t2), ("kind", Value.str (kinds kd) t1), ("name", .str nm t), ("tape", .ref tp)] : List (Str × Value)) = lsX at *
  have B₈ : Bd w [tp] s h L hz h₈ lsX := hls ▸ B₈
  have l1 : look lsX "tape" = some (.ref tp) := by rw [← hls]; walk_at "LK"
  have l2 : look lsX "name" = some (.str nm t) := by rw [← hls]; walk_at "LK"
  have l3 : look lsX "kind" = some (.str (kinds kd) t1) := by rw [← hls]; walk_at "LK"
  have l4 : look lsX "access" = some (.str (accs ac) t2) := by rw [← hls]; walk_at "LK"
  have l5 : look lsX "path" = some (.str (pathV p) u1) := by rw [← hls]; walk_at "LK"
  refine wpAny_execs_cons (Assign_Tuple (wpAny_Tuple (args_cons (wpAny_List (args_cons (n_ B₈ (v := .str (pathT p) u2) (args_nil ⟨szl rfl, args_cons (wpAny_Constant_str (args_cons (wpAny_Tuple (args_nil ⟨Nat.zero_le _, args_cons (wpAny_Constant_str (args_cons (wpAny_Constant_str (args_nil ⟨szl rfl, ?_⟩))))⟩))))⟩)))))))
  generalize hr0 : ({ cls := .type "list", data := .seq [Value.str (pathT p) u2].toArray } : Obj) = r0
  generalize hr1 : ({ cls := .type "tuple", data := .seq ([] : List Value).toArray } : Obj) = r1
  generalize hr2 : ({ cls := .type "tuple", data := .seq [Value.ref h₈.objs.size, .str "" tk₈, .ref (h₈.push r0).objs.size, .str "" (tk₈ + 1), .str "" (tk₈ + 1 + 1)].toArray } : Obj) = r2
  have f0 : (((h₈.push r0).push r1).push r2).PlainList h₈.objs.size [Value.str (pathT p) u2].toArray := ⟨0, by rw [Heap.get?_push_of_some _ (Heap.get?_push_of_some _ (Heap.get?_push_size _ (by rw [← hr0]; rfl))), ← hr0]⟩
  have f1 : IsTup (((h₈.push r0).push r1).push r2) (h₈.push r0).objs.size #[] := ⟨r1, Heap.get?_push_of_some _ (Heap.get?_push_size _ (by rw [← hr1]; rfl)), by rw [← hr1], 0, by rw [← hr1]⟩
  have f2 : IsTup (((h₈.push r0).push r1).push r2) ((h₈.push r0).push r1).objs.size [Value.ref h₈.objs.size, .str "" tk₈, .ref (h₈.push r0).objs.size, .str "" (tk₈ + 1), .str "" (tk₈ + 1 + 1)].toArray := ⟨r2, Heap.get?_push_size _ (by rw [← hr2]; rfl), by rw [← hr2], 0, by rw [← hr2]⟩
  have e0 : Ext [] h₈ (((h₈.push r0).push r1).push r2) := ((Ext.push _ _).trans (Ext.push _ _)).trans (Ext.push _ _)
  have hrl : L < h₈.objs.size := B₈.Llt
  generalize h₈.objs.size = rl at *
  generalize (h₈.push r0).objs.size = ro at *
  generalize ((h₈.push r0).push r1).objs.size = rt at *
  generalize ((h₈.push r0).push r1).push r2 = g₁ at *
  have C₁ := B₈.ext e0 nil_mem
  have U₁ := T₈.keeps e0
  refine assign_Tuple_tuple ok.hd f2 rfl rfl fun g₂ he => ?_
  have x₂ : Ext [] g₁ g₂ := fun b o e _ => he b o (Nat.ne_of_lt (Heap.lt_size e)) e
  have C₂ := C₁.ext x₂ nil_mem
  have U₂ := U₁.keeps x₂
  have f0 := pl_ext f0 x₂ nil_not
  have f1 := tup_ext f1 x₂ nil_mem
  refine assignInOrder_cons (PyProof.Rows.assign_Name (s_ C₂ fun g₃ c₃ C₃ x₃ => assignInOrder_cons (PyProof.Rows.assign_Name (s_ C₃ fun g₄ c₄ C₄ x₄ => assignInOrder_cons (PyProof.Rows.assign_Name (s_ C₄ fun g₅ c₅ C₅ x₅ => assignInOrder_cons (PyProof.Rows.assign_Name (s_ C₅ fun g₆ c₆ C₆ x₆ => assignInOrder_cons (PyProof.Rows.assign_Name (s_ C₆ fun g₇ c₇ C₇ x₇ => assignInOrder_nil ?_))))))))))
  have rlL : rl ≠ L := Nat.ne_of_gt hrl
  have f0 := pl_ext (pl_ext (pl_ext (pl_ext (pl_ext f0 x₃ (nin1 rlL)) x₄ (nin1 rlL)) x₅ (nin1 rlL)) x₆ (nin1 rlL)) x₇ (nin1 rlL)
  have f1 := tup_ext (tup_ext (tup_ext (tup_ext (tup_ext f1 x₃ (one_dict C₂.isDict)) x₄ (one_dict C₃.isDict)) x₅ (one_dict C₄.isDict)) x₆ (one_dict C₅.isDict)) x₇ (one_dict C₆.isDict)
  have U₇ := ((((U₂.ext x₃ (one_dict C₂.isDict)).ext x₄ (one_dict C₃.isDict)).ext x₅ (one_dict C₄.isDict)).ext x₆ (one_dict C₅.isDict)).ext x₇ (one_dict C₆.isDict)
  have S : Sel w s h L hz tp nm g₇ _ (k₃ + 1) rl ⟨kd, ac, p, "", "", "", [], [pathT p]⟩ :=
    ⟨C₇, U₇, by walk_at "LK", ⟨_, by walk_at "LK"⟩, ⟨_, by walk_at "LK"⟩, ⟨_, by walk_at "LK"⟩, ⟨_, by walk_at "LK"⟩, by walk_at "LK", ⟨_, by walk_at "LK"⟩, ⟨ro, by walk_at "LK", [], f1, .nil⟩, ⟨_, by walk_at "LK"⟩, ⟨_, by walk_at "LK"⟩, ⟨_, f0, .cons _ _ .nil⟩, hrl⟩
  refine sel_all S (ok.le (by decide)) (by omega) hkd hac hp hka hnm fun a b h' tk' d r opt tt k' ls' hd B' g1 g2 T' hk' hr => ?_
  exact hK _ _ ⟨B'.x, ⟨a, b, d, r, opt, tt, k', rfl, hd, g1, g2, T', by omega, hr⟩, by walk_at "SM"⟩
end
/-- the tokens that a clause, or the period, begins with -/
noncomputable def startL : List Tk := [("sign", "."), ("word", "ASSIGN"), ("word", "ACCESS"), ("word", "RECORD"), ("word", "ALTERNATE"), ("word", "FILE"), ("word", "STATUS"), ("word", "RELATIVE"), ("word", "ORGANIZATION"), ("word", "SEQUENTIAL"), ("word", "INDEXED")]
inductive Fld where
  | path (v : Str)
  | org (v : Str)
  | acc (v : Str)
  | key (v : Str)
  | rel (v : Str)
  | st (v : Str)
noncomputable def Fld.set : Fld → Spec → Spec
  | .path v, S => { S with path := v }
  | .org v, S => { S with org := v }
  | .acc v, S => { S with acc := v }
  | .key v, S => { S with key := v }
  | .rel v, S => { S with rel := v }
  | .st v, S => { S with st := v }
noncomputable def Fld.tag : Fld → Str
  | .path _ => "ASSIGN"
  | .org _ => "ORGANIZATION"
  | .acc _ => "ACCESS"
  | .key _ => "RECORD"
  | .rel _ => "RELATIVE KEY"
  | .st _ => "STATUS"
structure FRow where
  x : Str
  ws : List Str
  f : Fld
noncomputable abbrev okw (y : Str) : Prop := (1 ≤ y.length ∧ y.length ≤ 1000) ∧ 32 ∉ cds y
structure FRow.Ok (R : FRow) : Prop where
  j : J R.x R.ws
  w : ∀ y ∈ R.ws, okw y
  s : ∃ t r, R.ws.map tokOf = t :: r ∧ t ∈ startL.tail
  c : ∀ t ∈ startL, ∀ tl S, clauseP (R.ws.map tokOf ++ t :: tl) S = some (R.f.tag, R.f.set S, t :: tl)
  a : isAlt R.x = false
noncomputable def pathRow : Nat → FRow
  | 0 => ⟨"ASSIGN TO 'p.dat'", ["ASSIGN", "TO", "'p.dat'"], .path "p.dat"⟩
  | 1 => ⟨"ASSIGN DISK", ["ASSIGN", "DISK"], .path "DISK"⟩
  | _ => ⟨"ASSIGN TO DISK 'q'", ["ASSIGN", "TO", "DISK", "'q'"], .path "q"⟩
noncomputable def keyRow : Nat → FRow
  | 0 => ⟨"RECORD KEY IS K", ["RECORD", "KEY", "IS", "K"], .key "K"⟩
  | _ => ⟨"RECORD K", ["RECORD", "K"], .key "K"⟩
noncomputable def relRow : Nat → FRow
  | 0 => ⟨"RELATIVE KEY IS R", ["RELATIVE", "KEY", "IS", "R"], .rel "R"⟩
  | 1 => ⟨"RELATIVE KEY R", ["RELATIVE", "KEY", "R"], .rel "R"⟩
  | _ => ⟨"RELATIVE IS R", ["RELATIVE", "IS", "R"], .rel "R"⟩
noncomputable def stRow : Nat → FRow
  | 0 => ⟨"FILE STATUS IS S", ["FILE", "STATUS", "IS", "S"], .st "S"⟩
  | _ => ⟨"STATUS S", ["STATUS", "S"], .st "S"⟩
noncomputable def orgRow : Nat → Nat → FRow
  | 0, 0 => ⟨"ORGANIZATION IS SEQUENTIAL", ["ORGANIZATION", "IS", "SEQUENTIAL"], .org "sequential"⟩
  | 0, 1 => ⟨"ORGANIZATION SEQUENTIAL", ["ORGANIZATION", "SEQUENTIAL"], .org "sequential"⟩
  | 0, _ => ⟨"SEQUENTIAL", ["SEQUENTIAL"], .org "sequential"⟩
  | 1, 0 => ⟨"ORGANIZATION IS RELATIVE", ["ORGANIZATION", "IS", "RELATIVE"], .org "relative"⟩
  | 1, 1 => ⟨"ORGANIZATION RELATIVE", ["ORGANIZATION", "RELATIVE"], .org "relative"⟩
  | 1, _ => ⟨"RELATIVE", ["RELATIVE"], .org "relative"⟩
  | _, 0 => ⟨"ORGANIZATION IS INDEXED", ["ORGANIZATION", "IS", "INDEXED"], .org "indexed"⟩
  | _, 1 => ⟨"ORGANIZATION INDEXED", ["ORGANIZATION", "INDEXED"], .org "indexed"⟩
  | _, _ => ⟨"INDEXED", ["INDEXED"], .org "indexed"⟩
noncomputable def accRow : Nat → Nat → FRow
  | 0, 0 => ⟨"ACCESS MODE IS SEQUENTIAL", ["ACCESS", "MODE", "IS", "SEQUENTIAL"], .acc "sequential"⟩
  | 0, _ => ⟨"ACCESS SEQUENTIAL", ["ACCESS", "SEQUENTIAL"], .acc "sequential"⟩
  | 1, 0 => ⟨"ACCESS MODE IS RANDOM", ["ACCESS", "MODE", "IS", "RANDOM"], .acc "random"⟩
  | 1, _ => ⟨"ACCESS RANDOM", ["ACCESS", "RANDOM"], .acc "random"⟩
  | _, 0 => ⟨"ACCESS MODE IS DYNAMIC", ["ACCESS", "MODE", "IS", "DYNAMIC"], .acc "dynamic"⟩
  | _, _ => ⟨"ACCESS DYNAMIC", ["ACCESS", "DYNAMIC"], .acc "dynamic"⟩
theorem J_of {x : Str} {ws : List Str} (hn : ws ≠ [] := by decide) (h : cds x = jn (ws.map cds) := by decide +kernel) : J x ws := ⟨hn, h⟩
theorem all11 {P : Tk → Prop} (h0 : P ("sign", ".")) (h1 : P ("word", "ASSIGN")) (h2 : P ("word", "ACCESS")) (h3 : P ("word", "RECORD")) (h4 : P ("word", "ALTERNATE")) (h5 : P ("word", "FILE")) (h6 : P ("word", "STATUS")) (h7 : P ("word", "RELATIVE")) (h8 : P ("word", "ORGANIZATION")) (h9 : P ("word", "SEQUENTIAL")) (h10 : P ("word", "INDEXED")) : ∀ t ∈ startL, P t := by
  intro t m
  simp only [startL, List.mem_cons, List.not_mem_nil, or_false] at m
  rcases m with rfl | rfl | rfl | rfl | rfl | rfl | rfl | rfl | rfl | rfl | rfl
  all_goals assumption
theorem pathRow_ok (p : Nat) : (pathRow p).Ok := by
  match p with
  | 0 => show FRow.Ok ⟨"ASSIGN TO 'p.dat'", ["ASSIGN", "TO", "'p.dat'"], .path "p.dat"⟩; exact ⟨J_of, by decide +kernel, ⟨_, _, rfl, by decide +kernel⟩, all11 (fun tl S => by kernel_rfl) (fun tl S => by kernel_rfl) (fun tl S => by kernel_rfl) (fun tl S => by kernel_rfl) (fun tl S => by kernel_rfl) (fun tl S => by kernel_rfl) (fun tl S => by kernel_rfl) (fun tl S => by kernel_rfl) (fun tl S => by kernel_rfl) (fun tl S => by kernel_rfl) (fun tl S => by kernel_rfl), by decide +kernel⟩
  | 1 => show FRow.Ok ⟨"ASSIGN DISK", ["ASSIGN", "DISK"], .path "DISK"⟩; exact ⟨J_of, by decide +kernel, ⟨_, _, rfl, by decide +kernel⟩, all11 (fun tl S => by kernel_rfl) (fun tl S => by kernel_rfl) (fun tl S => by kernel_rfl) (fun tl S => by kernel_rfl) (fun tl S => by kernel_rfl) (fun tl S => by kernel_rfl) (fun tl S => by kernel_rfl) (fun tl S => by kernel_rfl) (fun tl S => by kernel_rfl) (fun tl S => by kernel_rfl) (fun tl S => by kernel_rfl), by decide +kernel⟩
  | n + 2 => show FRow.Ok ⟨"ASSIGN TO DISK 'q'", ["ASSIGN", "TO", "DISK", "'q'"], .path "q"⟩; exact ⟨J_of, by decide +kernel, ⟨_, _, rfl, by decide +kernel⟩, all11 (fun tl S => by kernel_rfl) (fun tl S => by kernel_rfl) (fun tl S => by kernel_rfl) (fun tl S => by kernel_rfl) (fun tl S => by kernel_rfl) (fun tl S => by kernel_rfl) (fun tl S => by kernel_rfl) (fun tl S => by kernel_rfl) (fun tl S => by kernel_rfl) (fun tl S => by kernel_rfl) (fun tl S => by kernel_rfl), by decide +kernel⟩
theorem pathRow_x (p : Nat) : (pathRow p).x = pathT p := by
  match p with
  | 0 => rfl
  | 1 => rfl
  | n + 2 => rfl
theorem keyRow_ok (p : Nat) : (keyRow p).Ok := by
  match p with
  | 0 => show FRow.Ok ⟨"RECORD KEY IS K", ["RECORD", "KEY", "IS", "K"], .key "K"⟩; exact ⟨J_of, by decide +kernel, ⟨_, _, rfl, by decide +kernel⟩, all11 (fun tl S => by kernel_rfl) (fun tl S => by kernel_rfl) (fun tl S => by kernel_rfl) (fun tl S => by kernel_rfl) (fun tl S => by kernel_rfl) (fun tl S => by kernel_rfl) (fun tl S => by kernel_rfl) (fun tl S => by kernel_rfl) (fun tl S => by kernel_rfl) (fun tl S => by kernel_rfl) (fun tl S => by kernel_rfl), by decide +kernel⟩
  | n + 1 => show FRow.Ok ⟨"RECORD K", ["RECORD", "K"], .key "K"⟩; exact ⟨J_of, by decide +kernel, ⟨_, _, rfl, by decide +kernel⟩, all11 (fun tl S => by kernel_rfl) (fun tl S => by kernel_rfl) (fun tl S => by kernel_rfl) (fun tl S => by kernel_rfl) (fun tl S => by kernel_rfl) (fun tl S => by kernel_rfl) (fun tl S => by kernel_rfl) (fun tl S => by kernel_rfl) (fun tl S => by kernel_rfl) (fun tl S => by kernel_rfl) (fun tl S => by kernel_rfl), by decide +kernel⟩
theorem keyRow_x (p : Nat) : (keyRow p).x = keyT p := by
  match p with
  | 0 => rfl
  | n + 1 => rfl
theorem relRow_ok (p : Nat) : (relRow p).Ok := by
  match p with
  | 0 => show FRow.Ok ⟨"RELATIVE KEY IS R", ["RELATIVE", "KEY", "IS", "R"], .rel "R"⟩; exact ⟨J_of, by decide +kernel, ⟨_, _, rfl, by decide +kernel⟩, all11 (fun tl S => by kernel_rfl) (fun tl S => by kernel_rfl) (fun tl S => by kernel_rfl) (fun tl S => by kernel_rfl) (fun tl S => by kernel_rfl) (fun tl S => by kernel_rfl) (fun tl S => by kernel_rfl) (fun tl S => by kernel_rfl) (fun tl S => by kernel_rfl) (fun tl S => by kernel_rfl) (fun tl S => by kernel_rfl), by decide +kernel⟩
  | 1 => show FRow.Ok ⟨"RELATIVE KEY R", ["RELATIVE", "KEY", "R"], .rel "R"⟩; exact ⟨J_of, by decide +kernel, ⟨_, _, rfl, by decide +kernel⟩, all11 (fun tl S => by kernel_rfl) (fun tl S => by kernel_rfl) (fun tl S => by kernel_rfl) (fun tl S => by kernel_rfl) (fun tl S => by kernel_rfl) (fun tl S => by kernel_rfl) (fun tl S => by kernel_rfl) (fun tl S => by kernel_rfl) (fun tl S => by kernel_rfl) (fun tl S => by kernel_rfl) (fun tl S => by kernel_rfl), by decide +kernel⟩
  | n + 2 => show FRow.Ok ⟨"RELATIVE IS R", ["RELATIVE", "IS", "R"], .rel "R"⟩; exact ⟨J_of, by decide +kernel, ⟨_, _, rfl, by decide +kernel⟩, all11 (fun tl S => by kernel_rfl) (fun tl S => by kernel_rfl) (fun tl S => by kernel_rfl) (fun tl S => by kernel_rfl) (fun tl S => by kernel_rfl) (fun tl S => by kernel_rfl) (fun tl S => by kernel_rfl) (fun tl S => by kernel_rfl) (fun tl S => by kernel_rfl) (fun tl S => by kernel_rfl) (fun tl S => by kernel_rfl), by decide +kernel⟩
theorem relRow_x (p : Nat) : (relRow p).x = relT p := by
  match p with
  | 0 => rfl
  | 1 => rfl
  | n + 2 => rfl
theorem stRow_ok (p : Nat) : (stRow p).Ok := by
  match p with
  | 0 => show FRow.Ok ⟨"FILE STATUS IS S", ["FILE", "STATUS", "IS", "S"], .st "S"⟩; exact ⟨J_of, by decide +kernel, ⟨_, _, rfl, by decide +kernel⟩, all11 (fun tl S => by kernel_rfl) (fun tl S => by kernel_rfl) (fun tl S => by kernel_rfl) (fun tl S => by kernel_rfl) (fun tl S => by kernel_rfl) (fun tl S => by kernel_rfl) (fun tl S => by kernel_rfl) (fun tl S => by kernel_rfl) (fun tl S => by kernel_rfl) (fun tl S => by kernel_rfl) (fun tl S => by kernel_rfl), by decide +kernel⟩
  | n + 1 => show FRow.Ok ⟨"STATUS S", ["STATUS", "S"], .st "S"⟩; exact ⟨J_of, by decide +kernel, ⟨_, _, rfl, by decide +kernel⟩, all11 (fun tl S => by kernel_rfl) (fun tl S => by kernel_rfl) (fun tl S => by kernel_rfl) (fun tl S => by kernel_rfl) (fun tl S => by kernel_rfl) (fun tl S => by kernel_rfl) (fun tl S => by kernel_rfl) (fun tl S => by kernel_rfl) (fun tl S => by kernel_rfl) (fun tl S => by kernel_rfl) (fun tl S => by kernel_rfl), by decide +kernel⟩
theorem stRow_x (p : Nat) : (stRow p).x = stT p := by
  match p with
  | 0 => rfl
  | n + 1 => rfl
theorem orgRow_ok (k o : Nat) : (orgRow k o).Ok := by
  match k, o with
  | 0, 0 => show FRow.Ok ⟨"ORGANIZATION IS SEQUENTIAL", ["ORGANIZATION", "IS", "SEQUENTIAL"], .org "sequential"⟩; exact ⟨J_of, by decide +kernel, ⟨_, _, rfl, by decide +kernel⟩, all11 (fun tl S => by kernel_rfl) (fun tl S => by kernel_rfl) (fun tl S => by kernel_rfl) (fun tl S => by kernel_rfl) (fun tl S => by kernel_rfl) (fun tl S => by kernel_rfl) (fun tl S => by kernel_rfl) (fun tl S => by kernel_rfl) (fun tl S => by kernel_rfl) (fun tl S => by kernel_rfl) (fun tl S => by kernel_rfl), by decide +kernel⟩
  | 0, 1 => show FRow.Ok ⟨"ORGANIZATION SEQUENTIAL", ["ORGANIZATION", "SEQUENTIAL"], .org "sequential"⟩; exact ⟨J_of, by decide +kernel, ⟨_, _, rfl, by decide +kernel⟩, all11 (fun tl S => by kernel_rfl) (fun tl S => by kernel_rfl) (fun tl S => by kernel_rfl) (fun tl S => by kernel_rfl) (fun tl S => by kernel_rfl) (fun tl S => by kernel_rfl) (fun tl S => by kernel_rfl) (fun tl S => by kernel_rfl) (fun tl S => by kernel_rfl) (fun tl S => by kernel_rfl) (fun tl S => by kernel_rfl), by decide +kernel⟩
  | 0, n + 2 => show FRow.Ok ⟨"SEQUENTIAL", ["SEQUENTIAL"], .org "sequential"⟩; exact ⟨J_of, by decide +kernel, ⟨_, _, rfl, by decide +kernel⟩, all11 (fun tl S => by kernel_rfl) (fun tl S => by kernel_rfl) (fun tl S => by kernel_rfl) (fun tl S => by kernel_rfl) (fun tl S => by kernel_rfl) (fun tl S => by kernel_rfl) (fun tl S => by kernel_rfl) (fun tl S => by kernel_rfl) (fun tl S => by kernel_rfl) (fun tl S => by kernel_rfl) (fun tl S => by kernel_rfl), by decide +kernel⟩
  | 1, 0 => show FRow.Ok ⟨"ORGANIZATION IS RELATIVE", ["ORGANIZATION", "IS", "RELATIVE"], .org "relative"⟩; exact ⟨J_of, by decide +kernel, ⟨_, _, rfl, by decide +kernel⟩, all11 (fun tl S => by kernel_rfl) (fun tl S => by kernel_rfl) (fun tl S => by kernel_rfl) (fun tl S => by kernel_rfl) (fun tl S => by kernel_rfl) (fun tl S => by kernel_rfl) (fun tl S => by kernel_rfl) (fun tl S => by kernel_rfl) (fun tl S => by kernel_rfl) (fun tl S => by kernel_rfl) (fun tl S => by kernel_rfl), by decide +kernel⟩
  | 1, 1 => show FRow.Ok ⟨"ORGANIZATION RELATIVE", ["ORGANIZATION", "RELATIVE"], .org "relative"⟩; exact ⟨J_of, by decide +kernel, ⟨_, _, rfl, by decide +kernel⟩, all11 (fun tl S => by kernel_rfl) (fun tl S => by kernel_rfl) (fun tl S => by kernel_rfl) (fun tl S => by kernel_rfl) (fun tl S => by kernel_rfl) (fun tl S => by kernel_rfl) (fun tl S => by kernel_rfl) (fun tl S => by kernel_rfl) (fun tl S => by kernel_rfl) (fun tl S => by kernel_rfl) (fun tl S => by kernel_rfl), by decide +kernel⟩
  | 1, n + 2 => show FRow.Ok ⟨"RELATIVE", ["RELATIVE"], .org "relative"⟩; exact ⟨J_of, by decide +kernel, ⟨_, _, rfl, by decide +kernel⟩, all11 (fun tl S => by kernel_rfl) (fun tl S => by kernel_rfl) (fun tl S => by kernel_rfl) (fun tl S => by kernel_rfl) (fun tl S => by kernel_rfl) (fun tl S => by kernel_rfl) (fun tl S => by kernel_rfl) (fun tl S => by kernel_rfl) (fun tl S => by kernel_rfl) (fun tl S => by kernel_rfl) (fun tl S => by kernel_rfl), by decide +kernel⟩
  | m + 2, 0 => show FRow.Ok ⟨"ORGANIZATION IS INDEXED", ["ORGANIZATION", "IS", "INDEXED"], .org "indexed"⟩; exact ⟨J_of, by decide +kernel, ⟨_, _, rfl, by decide +kernel⟩, all11 (fun tl S => by kernel_rfl) (fun tl S => by kernel_rfl) (fun tl S => by kernel_rfl) (fun tl S => by kernel_rfl) (fun tl S => by kernel_rfl) (fun tl S => by kernel_rfl) (fun tl S => by kernel_rfl) (fun tl S => by kernel_rfl) (fun tl S => by kernel_rfl) (fun tl S => by kernel_rfl) (fun tl S => by kernel_rfl), by decide +kernel⟩
  | m + 2, 1 => show FRow.Ok ⟨"ORGANIZATION INDEXED", ["ORGANIZATION", "INDEXED"], .org "indexed"⟩; exact ⟨J_of, by decide +kernel, ⟨_, _, rfl, by decide +kernel⟩, all11 (fun tl S => by kernel_rfl) (fun tl S => by kernel_rfl) (fun tl S => by kernel_rfl) (fun tl S => by kernel_rfl) (fun tl S => by kernel_rfl) (fun tl S => by kernel_rfl) (fun tl S => by kernel_rfl) (fun tl S => by kernel_rfl) (fun tl S => by kernel_rfl) (fun tl S => by kernel_rfl) (fun tl S => by kernel_rfl), by decide +kernel⟩
  | m + 2, n + 2 => show FRow.Ok ⟨"INDEXED", ["INDEXED"], .org "indexed"⟩; exact ⟨J_of, by decide +kernel, ⟨_, _, rfl, by decide +kernel⟩, all11 (fun tl S => by kernel_rfl) (fun tl S => by kernel_rfl) (fun tl S => by kernel_rfl) (fun tl S => by kernel_rfl) (fun tl S => by kernel_rfl) (fun tl S => by kernel_rfl) (fun tl S => by kernel_rfl) (fun tl S => by kernel_rfl) (fun tl S => by kernel_rfl) (fun tl S => by kernel_rfl) (fun tl S => by kernel_rfl), by decide +kernel⟩
theorem orgRow_x (k o : Nat) : (orgRow k o).x = orgT k o := by
  match k, o with
  | 0, 0 => show ("ORGANIZATION IS SEQUENTIAL" : Str) = ("ORGANIZATION IS " : Str) ++ Txt.upper "sequential"; rw [up0]; decide +kernel
  | 0, 1 => show ("ORGANIZATION SEQUENTIAL" : Str) = ("ORGANIZATION " : Str) ++ Txt.upper "sequential"; rw [up0]; decide +kernel
  | 0, n + 2 => show ("SEQUENTIAL" : Str) = ("" : Str) ++ Txt.upper "sequential"; rw [up0]; decide +kernel
  | 1, 0 => show ("ORGANIZATION IS RELATIVE" : Str) = ("ORGANIZATION IS " : Str) ++ Txt.upper "relative"; rw [up1]; decide +kernel
  | 1, 1 => show ("ORGANIZATION RELATIVE" : Str) = ("ORGANIZATION " : Str) ++ Txt.upper "relative"; rw [up1]; decide +kernel
  | 1, n + 2 => show ("RELATIVE" : Str) = ("" : Str) ++ Txt.upper "relative"; rw [up1]; decide +kernel
  | m + 2, 0 => show ("ORGANIZATION IS INDEXED" : Str) = ("ORGANIZATION IS " : Str) ++ Txt.upper "indexed"; rw [up2]; decide +kernel
  | m + 2, 1 => show ("ORGANIZATION INDEXED" : Str) = ("ORGANIZATION " : Str) ++ Txt.upper "indexed"; rw [up2]; decide +kernel
  | m + 2, n + 2 => show ("INDEXED" : Str) = ("" : Str) ++ Txt.upper "indexed"; rw [up2]; decide +kernel
theorem accRow_ok (k o : Nat) : (accRow k o).Ok := by
  match k, o with
  | 0, 0 => show FRow.Ok ⟨"ACCESS MODE IS SEQUENTIAL", ["ACCESS", "MODE", "IS", "SEQUENTIAL"], .acc "sequential"⟩; exact ⟨J_of, by decide +kernel, ⟨_, _, rfl, by decide +kernel⟩, all11 (fun tl S => by kernel_rfl) (fun tl S => by kernel_rfl) (fun tl S => by kernel_rfl) (fun tl S => by kernel_rfl) (fun tl S => by kernel_rfl) (fun tl S => by kernel_rfl) (fun tl S => by kernel_rfl) (fun tl S => by kernel_rfl) (fun tl S => by kernel_rfl) (fun tl S => by kernel_rfl) (fun tl S => by kernel_rfl), by decide +kernel⟩
  | 0, n + 1 => show FRow.Ok ⟨"ACCESS SEQUENTIAL", ["ACCESS", "SEQUENTIAL"], .acc "sequential"⟩; exact ⟨J_of, by decide +kernel, ⟨_, _, rfl, by decide +kernel⟩, all11 (fun tl S => by kernel_rfl) (fun tl S => by kernel_rfl) (fun tl S => by kernel_rfl) (fun tl S => by kernel_rfl) (fun tl S => by kernel_rfl) (fun tl S => by kernel_rfl) (fun tl S => by kernel_rfl) (fun tl S => by kernel_rfl) (fun tl S => by kernel_rfl) (fun tl S => by kernel_rfl) (fun tl S => by kernel_rfl), by decide +kernel⟩
  | 1, 0 => show FRow.Ok ⟨"ACCESS MODE IS RANDOM", ["ACCESS", "MODE", "IS", "RANDOM"], .acc "random"⟩; exact ⟨J_of, by decide +kernel, ⟨_, _, rfl, by decide +kernel⟩, all11 (fun tl S => by kernel_rfl) (fun tl S => by kernel_rfl) (fun tl S => by kernel_rfl) (fun tl S => by kernel_rfl) (fun tl S => by kernel_rfl) (fun tl S => by kernel_rfl) (fun tl S => by kernel_rfl) (fun tl S => by kernel_rfl) (fun tl S => by kernel_rfl) (fun tl S => by kernel_rfl) (fun tl S => by kernel_rfl), by decide +kernel⟩
  | 1, n + 1 => show FRow.Ok ⟨"ACCESS RANDOM", ["ACCESS", "RANDOM"], .acc "random"⟩; exact ⟨J_of, by decide +kernel, ⟨_, _, rfl, by decide +kernel⟩, all11 (fun tl S => by kernel_rfl) (fun tl S => by kernel_rfl) (fun tl S => by kernel_rfl) (fun tl S => by kernel_rfl) (fun tl S => by kernel_rfl) (fun tl S => by kernel_rfl) (fun tl S => by kernel_rfl) (fun tl S => by kernel_rfl) (fun tl S => by kernel_rfl) (fun tl S => by kernel_rfl) (fun tl S => by kernel_rfl), by decide +kernel⟩
  | m + 2, 0 => show FRow.Ok ⟨"ACCESS MODE IS DYNAMIC", ["ACCESS", "MODE", "IS", "DYNAMIC"], .acc "dynamic"⟩; exact ⟨J_of, by decide +kernel, ⟨_, _, rfl, by decide +kernel⟩, all11 (fun tl S => by kernel_rfl) (fun tl S => by kernel_rfl) (fun tl S => by kernel_rfl) (fun tl S => by kernel_rfl) (fun tl S => by kernel_rfl) (fun tl S => by kernel_rfl) (fun tl S => by kernel_rfl) (fun tl S => by kernel_rfl) (fun tl S => by kernel_rfl) (fun tl S => by kernel_rfl) (fun tl S => by kernel_rfl), by decide +kernel⟩
  | m + 2, n + 1 => show FRow.Ok ⟨"ACCESS DYNAMIC", ["ACCESS", "DYNAMIC"], .acc "dynamic"⟩; exact ⟨J_of, by decide +kernel, ⟨_, _, rfl, by decide +kernel⟩, all11 (fun tl S => by kernel_rfl) (fun tl S => by kernel_rfl) (fun tl S => by kernel_rfl) (fun tl S => by kernel_rfl) (fun tl S => by kernel_rfl) (fun tl S => by kernel_rfl) (fun tl S => by kernel_rfl) (fun tl S => by kernel_rfl) (fun tl S => by kernel_rfl) (fun tl S => by kernel_rfl) (fun tl S => by kernel_rfl), by decide +kernel⟩
theorem accRow_x (k o : Nat) : (accRow k o).x = accT k o := by
  match k, o with
  | 0, 0 => show ("ACCESS MODE IS SEQUENTIAL" : Str) = ("ACCESS MODE IS " : Str) ++ Txt.upper "sequential"; rw [up0]; decide +kernel
  | 0, n + 1 => show ("ACCESS SEQUENTIAL" : Str) = ("ACCESS " : Str) ++ Txt.upper "sequential"; rw [up0]; decide +kernel
  | 1, 0 => show ("ACCESS MODE IS RANDOM" : Str) = ("ACCESS MODE IS " : Str) ++ Txt.upper "random"; rw [up3]; decide +kernel
  | 1, n + 1 => show ("ACCESS RANDOM" : Str) = ("ACCESS " : Str) ++ Txt.upper "random"; rw [up3]; decide +kernel
  | m + 2, 0 => show ("ACCESS MODE IS DYNAMIC" : Str) = ("ACCESS MODE IS " : Str) ++ Txt.upper "dynamic"; rw [up4]; decide +kernel
  | m + 2, n + 1 => show ("ACCESS DYNAMIC" : Str) = ("ACCESS " : Str) ++ Txt.upper "dynamic"; rw [up4]; decide +kernel
noncomputable def altWs : Nat → Bool → List Str
  | 0, false => ["ALTERNATE", "RECORD", "KEY", "IS", "J0"]
  | 0, true => ["ALTERNATE", "RECORD", "KEY", "IS", "J0", "WITH", "DUPLICATES"]
  | _, false => ["ALTERNATE", "RECORD", "KEY", "IS", "J1"]
  | _, true => ["ALTERNATE", "RECORD", "KEY", "IS", "J1", "WITH", "DUPLICATES"]
theorem altWs_j (i : Nat) (b : Bool) : J (altT i b) (altWs i b) := by
  match i, b with
  | 0, false => show J "ALTERNATE RECORD KEY IS J0" _; exact J_of
  | 0, true => show J "ALTERNATE RECORD KEY IS J0 WITH DUPLICATES" _; exact J_of
  | n + 1, false => show J "ALTERNATE RECORD KEY IS J1" ["ALTERNATE", "RECORD", "KEY", "IS", "J1"]; exact J_of
  | n + 1, true => show J "ALTERNATE RECORD KEY IS J1 WITH DUPLICATES" ["ALTERNATE", "RECORD", "KEY", "IS", "J1", "WITH", "DUPLICATES"]; exact J_of
theorem altWs_w (i : Nat) (b : Bool) : ∀ y ∈ altWs i b, okw y := by
  match i, b with
  | 0, false => decide +kernel
  | 0, true => decide +kernel
  | n + 1, false => show ∀ y ∈ (["ALTERNATE", "RECORD", "KEY", "IS", "J1"] : List Str), okw y; decide +kernel
  | n + 1, true => show ∀ y ∈ (["ALTERNATE", "RECORD", "KEY", "IS", "J1", "WITH", "DUPLICATES"] : List Str), okw y; decide +kernel
theorem altT_alt (i : Nat) (b : Bool) : isAlt (altT i b) = true := by
  match i, b with
  | 0, false => decide +kernel
  | 0, true => decide +kernel
  | n + 1, false => show isAlt "ALTERNATE RECORD KEY IS J1" = true; decide +kernel
  | n + 1, true => show isAlt "ALTERNATE RECORD KEY IS J1 WITH DUPLICATES" = true; decide +kernel
noncomputable def altGo (n : Str) (b : Bool) (t : Tk) (tl : List Tk) (S : Spec) : Option (Str × Spec × List Tk) := ((if (S.alts.map (·.1)).any (· == n) then none else some (({ S with alts := S.alts ++ [(n, b)] } : Spec), t :: tl) : Option (Spec × List Tk))).map fun q => ((("ALTERNATE" : Str), q.1, q.2) : Str × Spec × List Tk)
theorem altWs_c (i : Nat) (b : Bool) : ∀ t ∈ startL, ∀ tl S, clauseP ((altWs i b).map tokOf ++ t :: tl) S = altGo (altN i) b t tl S := by
  match i, b with
  | 0, false => exact all11 (fun tl S => by kernel_rfl) (fun tl S => by kernel_rfl) (fun tl S => by kernel_rfl) (fun tl S => by kernel_rfl) (fun tl S => by kernel_rfl) (fun tl S => by kernel_rfl) (fun tl S => by kernel_rfl) (fun tl S => by kernel_rfl) (fun tl S => by kernel_rfl) (fun tl S => by kernel_rfl) (fun tl S => by kernel_rfl)
  | 0, true => exact all11 (fun tl S => by kernel_rfl) (fun tl S => by kernel_rfl) (fun tl S => by kernel_rfl) (fun tl S => by kernel_rfl) (fun tl S => by kernel_rfl) (fun tl S => by kernel_rfl) (fun tl S => by kernel_rfl) (fun tl S => by kernel_rfl) (fun tl S => by kernel_rfl) (fun tl S => by kernel_rfl) (fun tl S => by kernel_rfl)
  | n + 1, false => exact all11 (fun tl S => by kernel_rfl) (fun tl S => by kernel_rfl) (fun tl S => by kernel_rfl) (fun tl S => by kernel_rfl) (fun tl S => by kernel_rfl) (fun tl S => by kernel_rfl) (fun tl S => by kernel_rfl) (fun tl S => by kernel_rfl) (fun tl S => by kernel_rfl) (fun tl S => by kernel_rfl) (fun tl S => by kernel_rfl)
  | n + 1, true => exact all11 (fun tl S => by kernel_rfl) (fun tl S => by kernel_rfl) (fun tl S => by kernel_rfl) (fun tl S => by kernel_rfl) (fun tl S => by kernel_rfl) (fun tl S => by kernel_rfl) (fun tl S => by kernel_rfl) (fun tl S => by kernel_rfl) (fun tl S => by kernel_rfl) (fun tl S => by kernel_rfl) (fun tl S => by kernel_rfl)
theorem altWs_s (i : Nat) (b : Bool) : ∃ r, (altWs i b).map tokOf = (("word", "ALTERNATE") : Tk) :: r := by
  match i, b with
  | 0, false => exact ⟨_, rfl⟩
  | 0, true => exact ⟨_, rfl⟩
  | n + 1, false => exact ⟨_, rfl⟩
  | n + 1, true => exact ⟨_, rfl⟩
noncomputable def foldF (l : List Fld) (S : Spec) : Spec := l.foldl (fun S f => f.set S) S
theorem fld_comm (a b : Fld) (h : a.tag ≠ b.tag) (S : Spec) : a.set (b.set S) = b.set (a.set S) := by
  cases a <;> cases b <;> first | rfl | exact absurd rfl h
theorem foldF_one (a : Fld) : ∀ (l : List Fld) (S : Spec), (∀ b ∈ l, a.tag ≠ b.tag) → foldF l (a.set S) = a.set (foldF l S)
  | [], _, _ => rfl
  | b :: r, S, h => by
    show foldF r (b.set (a.set S)) = a.set (foldF r (b.set S))
    rw [← fld_comm a b (h b (.head _)) S, foldF_one a r (b.set S) fun c m => h c (.tail _ m)]
theorem foldF_app (l r : List Fld) (S : Spec) : foldF (l ++ r) S = foldF r (foldF l S) := List.foldl_append
theorem foldF_swap : ∀ (l r : List Fld) (S : Spec), (∀ a ∈ l, ∀ b ∈ r, a.tag ≠ b.tag) → foldF (r ++ l) S = foldF (l ++ r) S
  | [], r, S, _ => by rw [List.append_nil]; rfl
  | a :: l, r, S, h => by
    rw [foldF_app]
    show foldF l (a.set (foldF r S)) = foldF (l ++ r) (a.set S)
    rw [← foldF_one a r S (h a (.head _)), ← foldF_app, foldF_swap l r (a.set S) fun c m => h c (.tail _ m)]
theorem fld_alts (f : Fld) (S : Spec) : (f.set S).alts = S.alts := by cases f <;> rfl
theorem foldF_alts : ∀ (l : List Fld) (S : Spec), (foldF l S).alts = S.alts
  | [], _ => rfl
  | f :: r, S => (foldF_alts r (f.set S)).trans (fld_alts f S)
theorem start_sign {t : Tk} (h : t ∈ startL.tail) (r : List Tk) : signB "." (t :: r) = false := by
  simp only [startL, List.tail_cons, List.mem_cons, List.not_mem_nil, or_false] at h
  rcases h with rfl | rfl | rfl | rfl | rfl | rfl | rfl | rfl | rfl | rfl <;> kernel_rfl
theorem tag_len (f : Fld) : f.tag.length ≤ 1000 := by cases f <;> (show (Str.ofString _).length ≤ 1000; decide +kernel)
noncomputable def fToks (l : List FRow) : List Tk := l.flatMap fun R => R.ws.map tokOf
theorem any_false {met : List Str} {x : Str} (h : x ∉ met) : met.any (· == x) = false := by
  rw [List.any_eq_false]
  intro y m e
  exact h (by rw [← eq_of_beq e]; exact m)
/-- the clauses that are no alternates -/
theorem reads_flds {n : Nat} {S'' : Spec} {rem'' : List Tk} : ∀ (l : List FRow) (met : List Str) (S : Spec) (q : List Tk), (∀ R ∈ l, R.Ok) → (∀ R ∈ l, R.f.tag ∉ met) → (l.map fun R => R.f.tag).Nodup → (∃ t r, q = t :: r ∧ t ∈ startL) → S.alts.length ≤ 1000 →
    Reads false n (met ++ l.map fun R => R.f.tag) (foldF (l.map (·.f)) S) q S'' rem'' → Reads false (l.length + n) met S (fToks l ++ q) S'' rem''
  | [], met, S, q, _, _, _, _, _, h => by simpa [fToks, foldF] using h
  | R :: l, met, S, q, ho, hm, hn, hq, ha, h => by
    obtain ⟨j, w', ⟨t0, r0, e0, m0⟩, c, _⟩ := ho R (.head _)
    have hq' : ∃ t r, fToks l ++ q = t :: r ∧ t ∈ startL := by
      cases l with
      | nil => exact hq
      | cons R' l' =>
        obtain ⟨_, _, ⟨t1, r1, e1, m1⟩, _⟩ := ho R' (.tail _ (.head _))
        exact ⟨t1, r1 ++ (fToks l' ++ q), by show (R'.ws.map tokOf ++ fToks l') ++ q = _; rw [e1]; simp, List.mem_of_mem_tail m1⟩
    obtain ⟨t, r, e, m⟩ := hq'
    have e2 : fToks (R :: l) ++ q = R.ws.map tokOf ++ t :: r := by show (R.ws.map tokOf ++ fToks l) ++ q = _; rw [List.append_assoc, e]
    have hc := c t m r S
    rw [← e2] at hc
    rw [List.map_cons, List.nodup_cons] at hn
    have hs : signB "." (fToks (R :: l) ++ q) = false := by rw [e2, e0]; exact start_sign m0 _
    have hne : fToks (R :: l) ++ q ≠ [] := by rw [e2, e0]; simp
    have hmt : (met.any (· == R.f.tag) && R.f.tag != "ALTERNATE") = false := by rw [any_false (hm R (.head _))]; rfl
    rw [show (R :: l).length + n = (l.length + n) + 1 by simp; omega]
    refine .step (cb := false) hs hne (.inl ⟨rfl, hc⟩) ha (tag_len _) (fun q => nomatch q) (fun _ q => by rw [hmt] at q; cases q) (fun _ _ => ?_)
    rw [← e]
    refine reads_flds l (met ++ [R.f.tag]) (R.f.set S) q (fun R' m => ho R' (.tail _ m)) (fun R' m' q' => ?_) hn.2 hq (by rw [fld_alts]; exact ha) ?_
    · rcases List.mem_append.mp q' with q' | q'
      · exact hm R' (.tail _ m') q'
      · rcases List.mem_cons.mp q' with q' | q'
        · exact hn.1 (by rw [← q']; exact List.mem_map_of_mem (f := fun R : FRow => R.f.tag) m')
        · cases q'
    · rw [List.append_assoc]; exact h
noncomputable def aToks : Nat → List Bool → List Tk
  | _, [] => []
  | i, b :: r => (altWs i b).map tokOf ++ aToks (i + 1) r
theorem reads_alt1 {n : Nat} {met : List Str} {S S'' : Spec} {rem'' q : List Tk} (i : Nat) (b : Bool) (hq : ∃ t r, q = t :: r ∧ t ∈ startL) (ha : S.alts.length ≤ 1000) (hd : (S.alts.map (·.1)).any (· == altN i) = false)
    (h : Reads false n (met ++ [("ALTERNATE" : Str)]) { S with alts := S.alts ++ [(altN i, b)] } q S'' rem'') : Reads false (n + 1) met S ((altWs i b).map tokOf ++ q) S'' rem'' := by
  obtain ⟨t, r, rfl, m⟩ := hq
  have hc := altWs_c i b t m r S
  unfold altGo at hc
  rw [hd] at hc
  obtain ⟨r0, e0⟩ := altWs_s i b
  have hs : signB "." ((altWs i b).map tokOf ++ t :: r) = false := by rw [e0]; exact start_sign (by decide +kernel) _
  have hne : (altWs i b).map tokOf ++ t :: r ≠ [] := by rw [e0]; simp
  have hmt : (met.any (· == ("ALTERNATE" : Str)) && ("ALTERNATE" : Str) != "ALTERNATE") = false := by
    rw [show (("ALTERNATE" : Str) != "ALTERNATE") = false by decide +kernel, Bool.and_false]
  exact .step (cb := false) hs hne (.inl ⟨rfl, hc⟩) ha (by decide +kernel) (fun q => nomatch q) (fun _ q => by rw [hmt] at q; cases q) fun _ _ => h
theorem reads_alts {met : List Str} {S : Spec} {tl : List Tk} (bs : List Bool) (hb : bs.length ≤ 2) (ha : S.alts = []) : Reads false bs.length met S (aToks 0 bs ++ (("sign", ".") : Tk) :: tl) { S with alts := altP' 0 bs } tl := by
  have fin : ∀ {met S}, Reads false 0 met S ((("sign", ".") : Tk) :: tl) S tl := fun {met S} => .done (by kernel_rfl)
  obtain ⟨a1, a2, a3, a4, a5, a6, a7, a8⟩ := S
  have ha : a6 = [] := ha
  subst ha
  match bs, hb with
  | [], _ => exact fin
  | [b], _ =>
    have e : aToks 0 [b] ++ (("sign", ".") : Tk) :: tl = (altWs 0 b).map tokOf ++ (("sign", ".") : Tk) :: tl := by simp [aToks]
    rw [e]
    exact reads_alt1 0 b ⟨_, _, rfl, by decide +kernel⟩ (Nat.zero_le _) rfl fin
  | [b, c], _ =>
    have e : aToks 0 [b, c] ++ (("sign", ".") : Tk) :: tl = (altWs 0 b).map tokOf ++ ((altWs 1 c).map tokOf ++ (("sign", ".") : Tk) :: tl) := by simp [aToks]
    rw [e]
    obtain ⟨r0, e0⟩ := altWs_s 1 c
    refine reads_alt1 0 b ⟨_, _, by rw [e0]; rfl, by decide +kernel⟩ (Nat.zero_le _) rfl ?_
    exact reads_alt1 1 c ⟨_, _, rfl, by decide +kernel⟩ (by simp) (by kernel_rfl) fin
noncomputable def optRow (o : Option Nat) (f : Nat → FRow) : List FRow := o.toList.map f
noncomputable def restR (d : Dr) : List FRow := [pathRow d.p] ++ optRow d.og (orgRow d.kd) ++ optRow d.ag (accRow d.ac) ++ optRow d.kg keyRow ++ optRow d.rg relRow ++ optRow d.sg stRow
theorem pathRow_f (p : Nat) : (pathRow p).f = .path (pathV p) := by
  match p with
  | 0 => rfl
  | 1 => rfl
  | n + 2 => rfl
theorem keyRow_f (p : Nat) : (keyRow p).f = .key "K" := by
  match p with
  | 0 => rfl
  | n + 1 => rfl
theorem relRow_f (p : Nat) : (relRow p).f = .rel "R" := by
  match p with
  | 0 => rfl
  | 1 => rfl
  | n + 2 => rfl
theorem stRow_f (p : Nat) : (stRow p).f = .st "S" := by
  match p with
  | 0 => rfl
  | n + 1 => rfl
theorem orgRow_f (k o : Nat) : (orgRow k o).f = .org (kinds k) := by
  match k, o with
  | 0, 0 => rfl
  | 0, 1 => rfl
  | 0, n + 2 => rfl
  | 1, 0 => rfl
  | 1, 1 => rfl
  | 1, n + 2 => rfl
  | m + 2, 0 => rfl
  | m + 2, 1 => rfl
  | m + 2, n + 2 => rfl
theorem accRow_f (k o : Nat) : (accRow k o).f = .acc (accs k) := by
  match k, o with
  | 0, 0 => rfl
  | 0, n + 1 => rfl
  | 1, 0 => rfl
  | 1, n + 1 => rfl
  | m + 2, 0 => rfl
  | m + 2, n + 1 => rfl
theorem restR_ok (d : Dr) : ∀ R ∈ restR d, R.Ok := by
  intro R m
  unfold restR optRow at m
  simp only [List.mem_append, List.mem_map, List.mem_singleton] at m
  rcases m with ((((rfl | ⟨o, _, rfl⟩) | ⟨o, _, rfl⟩) | ⟨o, _, rfl⟩) | ⟨o, _, rfl⟩) | ⟨o, _, rfl⟩
  · exact pathRow_ok _
  · exact orgRow_ok _ _
  · exact accRow_ok _ _
  · exact keyRow_ok _
  · exact relRow_ok _
  · exact stRow_ok _
theorem optRow_x (o : Option Nat) (f : Nat → FRow) (g : Nat → Str) (h : ∀ i, (f i).x = g i) : (optRow o f).map (·.x) = optR o g := by
  cases o with
  | none => rfl
  | some i => show [(f i).x] = [g i]; rw [h]
theorem altR_alt : ∀ (bs : List Bool) (i : Nat), ∀ x ∈ altR i bs, isAlt x = true
  | [], _, _, m => nomatch m
  | b :: r, i, x, m => by
    rcases List.mem_cons.mp m with rfl | m
    · exact altT_alt i b
    · exact altR_alt r (i + 1) x m
theorem rows_split (d : Dr) : restL d.rows = (restR d).map (·.x) ∧ altL d.rows = altR 0 d.al := by
  have hx := fun R m => (restR_ok d R m).a
  have e : ∃ l1 l2, d.rows = l1 ++ altR 0 d.al ++ l2 ∧ (restR d).map (·.x) = l1 ++ l2 := by
    refine ⟨[pathT d.p] ++ optR d.og (orgT d.kd) ++ optR d.ag (accT d.ac) ++ optR d.kg keyT, optR d.rg relT ++ optR d.sg stT, ?_, ?_⟩
    · unfold Dr.rows; simp only [List.append_assoc]
    · unfold restR
      simp only [List.map_append, List.map_cons, List.map_nil, pathRow_x, optRow_x _ _ _ (orgRow_x d.kd), optRow_x _ _ _ (accRow_x d.ac), optRow_x _ _ _ keyRow_x, optRow_x _ _ _ relRow_x, optRow_x _ _ _ stRow_x, List.append_assoc]
  obtain ⟨l1, l2, e1, e2⟩ := e
  have hl : ∀ x ∈ l1 ++ l2, isAlt x = false := fun x m => by
    rw [← e2] at m
    obtain ⟨R, m', e'⟩ := List.mem_map.mp m
    rw [← e']; exact hx R m'
  have f1 : l1.filter (fun x => !isAlt x) = l1 := List.filter_eq_self.mpr fun x m => by rw [hl x (List.mem_append_left _ m)]; rfl
  have f2 : l2.filter (fun x => !isAlt x) = l2 := List.filter_eq_self.mpr fun x m => by rw [hl x (List.mem_append_right _ m)]; rfl
  have f3 : (altR 0 d.al).filter (fun x => !isAlt x) = [] := List.filter_eq_nil_iff.mpr fun x m => by rw [altR_alt _ _ x m]; decide
  have g1 : l1.filter isAlt = [] := List.filter_eq_nil_iff.mpr fun x m => by rw [hl x (List.mem_append_left _ m)]; decide
  have g2 : l2.filter isAlt = [] := List.filter_eq_nil_iff.mpr fun x m => by rw [hl x (List.mem_append_right _ m)]; decide
  have g3 : (altR 0 d.al).filter isAlt = altR 0 d.al := List.filter_eq_self.mpr fun x m => altR_alt _ _ x m
  constructor
  · unfold restL
    rw [e1, List.filter_append, List.filter_append, f1, f2, f3, List.append_nil, ← e2]
  · unfold altL
    rw [e1, List.filter_append, List.filter_append, g1, g2, g3, List.append_nil, List.nil_append]
theorem restR_tags (d : Dr) : ((restR d).map fun R => R.f.tag).Nodup := by
  obtain ⟨kd, ac, p, og, ag, kg, al, rg, sg⟩ := d
  unfold restR optRow
  cases og <;> cases ag <;> cases kg <;> cases rg <;> cases sg <;>
    (simp only [Option.toList, List.map_cons, List.map_nil, List.append_nil, List.nil_append, List.cons_append, pathRow_f, orgRow_f, accRow_f, keyRow_f, relRow_f, stRow_f, Fld.tag]; decide +kernel)
theorem restR_fold (d : Dr) (hd : d.Ok) (nm : Str) : foldF ((restR d).map (·.f)) (spec0 nm) = { selSpec nm d with alts := [] } := by
  obtain ⟨kd, ac, p, og, ag, kg, al, rg, sg⟩ := d
  have h1 := hd.o
  have h2 := hd.a
  dsimp only at h1 h2
  unfold restR optRow selSpec spec0 Dr.key Dr.rel Dr.st
  cases og <;> cases ag <;> cases kg <;> cases rg <;> cases sg <;>
    (simp only [Option.toList, List.map_cons, List.map_nil, List.append_nil, List.nil_append, List.cons_append, pathRow_f, orgRow_f, accRow_f, keyRow_f, relRow_f, stRow_f, foldF, List.foldl, Fld.set, Option.isSome]) <;>
    (first | rfl | (have e1 := h1 rfl; have e2 := h2 rfl; subst e1 e2; rfl) | (have e1 := h1 rfl; subst e1; rfl) | (have e2 := h2 rfl; subst e2; rfl))
theorem whole_ok (d : Dr) (hd : d.Ok) (nm : Str) : wholeB (selSpec nm d) = true := by
  obtain ⟨kd, ac, p, og, ag, kg, al, rg, sg⟩ := d
  obtain ⟨k3, a3, p3, ka, o, o3, a, a2, k, k2, l2, lk, r, ra, r3, s2⟩ := hd
  dsimp only at *
  have hp : (pathV p == ("" : Str)) = false := by
    match p, p3 with
    | 0, _ => decide +kernel
    | 1, _ => decide +kernel
    | 2, _ => decide +kernel
  have hacc : ac = 0 → accs ac = "sequential" := fun e => by rw [e]; rfl
  have hal : kd ≠ 2 → altP' 0 al = [] := fun e => by rw [lk e]; rfl
  unfold wholeB selSpec Dr.key Dr.rel
  dsimp only
  rw [hp]
  match kd, k3 with
  | 0, _ =>
    have e1 : kg.isSome = false := by rw [k]; rfl
    have e2 : rg.isSome = false := by cases q : rg.isSome with
      | false => rfl
      | true => exact absurd (r q) (by decide)
    rw [hal (by decide), e1, e2, hacc (ka rfl)]
    kernel_rfl
  | 1, _ =>
    have e1 : kg.isSome = false := by rw [k]; rfl
    rw [hal (by decide), e1]
    cases rg with
    | none => rw [hacc (ra rfl rfl)]; kernel_rfl
    | some i => kernel_rfl
  | 2, _ =>
    have e1 : kg.isSome = true := by rw [k]; rfl
    have e2 : rg.isSome = false := by cases q : rg.isSome with
      | false => rfl
      | true => exact absurd (r q) (by decide)
    have e3 : (kinds 2 != ("indexed" : Str)) = false := by decide +kernel
    rw [e1, e2, e3, Bool.and_false]
    kernel_rfl
noncomputable def fWs (l : List FRow) : List Str := l.flatMap (·.ws)
noncomputable def aWs : Nat → List Bool → List Str
  | _, [] => []
  | i, b :: r => altWs i b ++ aWs (i + 1) r
noncomputable def aPairs : Nat → List Bool → List (Str × List Str)
  | _, [] => []
  | i, b :: r => (altT i b, altWs i b) :: aPairs (i + 1) r
theorem aPairs_x : ∀ (bs : List Bool) (i : Nat), (aPairs i bs).map (·.1) = altR i bs
  | [], _ => rfl
  | b :: r, i => congrArg (altT i b :: ·) (aPairs_x r (i + 1))
theorem aPairs_w : ∀ (bs : List Bool) (i : Nat), (aPairs i bs).flatMap (·.2) = aWs i bs
  | [], _ => rfl
  | b :: r, i => by rw [aPairs, List.flatMap_cons, aPairs_w r (i + 1)]; rfl
theorem aPairs_j : ∀ (bs : List Bool) (i : Nat), ∀ p ∈ aPairs i bs, J p.1 p.2
  | [], _, _, m => nomatch m
  | b :: r, i, p, m => by
    rcases List.mem_cons.mp m with rfl | m
    · exact altWs_j i b
    · exact aPairs_j r (i + 1) p m
theorem aWs_ok : ∀ (bs : List Bool) (i : Nat), ∀ y ∈ aWs i bs, okw y
  | [], _, _, m => nomatch m
  | b :: r, i, y, m => by
    rcases List.mem_append.mp m with m | m
    · exact altWs_w i b y m
    · exact aWs_ok r (i + 1) y m
theorem aWs_tok : ∀ (bs : List Bool) (i : Nat), (aWs i bs).map tokOf = aToks i bs
  | [], _ => rfl
  | b :: r, i => by rw [aWs, List.map_append, aWs_tok r (i + 1)]; rfl
theorem fWs_tok (l : List FRow) : (fWs l).map tokOf = fToks l := by
  unfold fWs fToks
  rw [List.map_flatMap]
noncomputable def rotR (r : Nat) (l : List FRow) : List FRow := l.drop r ++ l.take r
theorem rotR_x (r : Nat) (l : List FRow) : (rotR r l).map (·.x) = rotL r (l.map (·.x)) := by
  unfold rotR rotL
  rw [List.map_append, List.map_drop, List.map_take]
theorem rotR_mem {r : Nat} {l : List FRow} {R : FRow} (m : R ∈ rotR r l) : R ∈ l := by
  rcases List.mem_append.mp m with m | m
  · exact List.mem_of_mem_drop m
  · exact List.mem_of_mem_take m
theorem rotR_tags {r : Nat} {l : List FRow} (h : (l.map fun R => R.f.tag).Nodup) : ((rotR r l).map fun R => R.f.tag).Nodup := by
  unfold rotR
  have : (l.drop r ++ l.take r).Perm l := List.perm_append_comm.trans (by rw [List.take_append_drop])
  exact ((this.map fun R : FRow => R.f.tag).nodup_iff).mpr h
theorem rotR_fold {r : Nat} {l : List FRow} (h : (l.map fun R => R.f.tag).Nodup) (S : Spec) : foldF ((rotR r l).map (·.f)) S = foldF (l.map (·.f)) S := by
  unfold rotR
  rw [List.map_append]
  have e : l.map (·.f) = (l.take r).map (·.f) ++ (l.drop r).map (·.f) := by rw [← List.map_append, List.take_append_drop]
  rw [foldF_swap, ← e]
  intro a ha b hb
  obtain ⟨A, mA, rfl⟩ := List.mem_map.mp ha
  obtain ⟨B, mB, rfl⟩ := List.mem_map.mp hb
  have h' : ((l.take r).map (fun R => R.f.tag) ++ (l.drop r).map (fun R => R.f.tag)).Nodup := by rw [← List.map_append, List.take_append_drop]; exact h
  exact (List.nodup_append.mp h').2.2 _ (List.mem_map_of_mem (f := fun R : FRow => R.f.tag) mA) _ (List.mem_map_of_mem (f := fun R : FRow => R.f.tag) mB)
noncomputable def names3 : List Str := ["F0", "F1", "F2"]
/-- a SELECT's words -/
noncomputable def selWs (nm : Str) (d : Dr) (r : Nat) (opt : Bool) : List Str := [("SELECT" : Str)] ++ (if opt then [("OPTIONAL" : Str)] else []) ++ [nm] ++ (fWs (rotR r (restR d)) ++ aWs 0 d.al) ++ [("." : Str)]
theorem selTxt_W (nm : Str) (d : Dr) (r : Nat) (opt : Bool) (hr : r < (restL d.rows).length) : W (selTxt nm d.rows r opt) (selWs nm d r opt) := by
  obtain ⟨e1, e2⟩ := rows_split d
  have hJ : J (Str.join " " (rotL r (restL d.rows) ++ altL d.rows)) (fWs (rotR r (restR d)) ++ aWs 0 d.al) := by
    have := J.join (l := (rotR r (restR d)).map (fun R => (R.x, R.ws)) ++ aPairs 0 d.al) (by
      have hl : (rotR r (restR d)).length = (restL d.rows).length := by rw [e1, List.length_map]; unfold rotR; simp; omega
      intro e
      have := congrArg List.length e
      rw [List.length_append, List.length_map, hl] at this
      have h0 : ([] : List (Str × List Str)).length = 0 := rfl
      omega) fun p m => by
        rcases List.mem_append.mp m with m | m
        · obtain ⟨R, m', e'⟩ := List.mem_map.mp m
          rw [← e']; exact (restR_ok d R (rotR_mem m')).j
        · exact aPairs_j _ _ p m
    rw [List.map_append, List.map_map, aPairs_x, List.flatMap_append, aPairs_w] at this
    rw [e1, e2, ← rotR_x]
    have e3 : ((rotR r (restR d)).map fun R => (R.x, R.ws)).flatMap (·.2) = fWs (rotR r (restR d)) := by
      rw [List.flatMap_map]; rfl
    rw [e3] at this
    exact this
  have h1 := hJ.w
  unfold W at h1
  have e4 : Txt.join " " (rotL r (restL d.rows) ++ altL d.rows) = Str.join " " (rotL r (restL d.rows) ++ altL d.rows) := StrLaws.glued_eq_join _ _
  unfold selTxt selWs W
  rw [e4]
  generalize Str.join " " (rotL r (restL d.rows) ++ altL d.rows) = j at *
  generalize fWs (rotR r (restR d)) ++ aWs 0 d.al = ws at *
  rw [cds_append] at h1
  simp only [cds_append, List.flatMap_append, ← h1]
  have o : cds (if opt then "OPTIONAL " else "" : Str) = (if opt then [("OPTIONAL" : Str)] else []).flatMap fun x => cds x ++ [32] := by cases opt <;> decide +kernel
  have q1 : cds ("SELECT " : Str) = ([("SELECT" : Str)]).flatMap fun x => cds x ++ [32] := by decide +kernel
  have q2 : cds (" . " : Str) = cds (" " : Str) ++ ([("." : Str)]).flatMap fun x => cds x ++ [32] := by decide +kernel
  have q3 : cds nm ++ cds (" " : Str) = ([nm]).flatMap fun x => cds x ++ [32] := by simp; rfl
  rw [o, q1, q2, ← q3]
  simp only [List.append_assoc]
theorem selWs_ok (nm : Str) (hn : nm ∈ names3) (d : Dr) (r : Nat) (opt : Bool) : ∀ y ∈ selWs nm d r opt, okw y := by
  intro y m
  unfold selWs at m
  simp only [List.mem_append, List.mem_singleton] at m
  rcases m with (((rfl | m) | rfl) | (m | m)) | rfl
  · decide +kernel
  · cases opt with
    | false => cases m
    | true => rcases List.mem_cons.mp m with rfl | m; decide +kernel; cases m
  · have : ∀ x ∈ names3, okw x := by decide +kernel
    exact this _ hn
  · obtain ⟨R, m, h⟩ := List.mem_flatMap.mp m
    exact (restR_ok d R (rotR_mem m)).w y h
  · exact aWs_ok _ _ y m
  · decide +kernel
theorem names_tok : ∀ nm ∈ names3, ∀ r, tokOf nm = (("word", nm) : Tk) ∧ nameP ((("word", nm) : Tk) :: r) = some (nm, r) ∧ heads ["OPTIONAL"] ((("word", nm) : Tk) :: r) = false := by
  intro nm m r
  simp only [names3, List.mem_cons, List.not_mem_nil, or_false] at m
  rcases m with rfl | rfl | rfl
  all_goals exact ⟨by kernel_rfl, by kernel_rfl, by kernel_rfl⟩
theorem sel_reads (nm : Str) (hn : nm ∈ names3) (d : Dr) (hd : d.Ok) (r : Nat) (opt : Bool) (tl : List Tk) : ∃ rem0 rem1 n, (selWs nm d r opt).map tokOf ++ tl = (("word", "SELECT") : Tk) :: rem0 ∧ nameP (after ["OPTIONAL"] rem0) = some (nm, rem1) ∧ Reads false n [] (spec0 nm) rem1 (selSpec nm d) tl ∧ n ≤ 1000 := by
  obtain ⟨t1, t2, t3⟩ := names_tok nm hn (fToks (rotR r (restR d)) ++ (aToks 0 d.al ++ (("sign", ".") : Tk) :: tl))
  refine ⟨(if opt then [("OPTIONAL" : Str)] else []).map tokOf ++ (("word", nm) : Tk) :: (fToks (rotR r (restR d)) ++ (aToks 0 d.al ++ (("sign", ".") : Tk) :: tl)), fToks (rotR r (restR d)) ++ (aToks 0 d.al ++ (("sign", ".") : Tk) :: tl), (rotR r (restR d)).length + d.al.length, ?_, ?_, ?_, ?_⟩
  · unfold selWs
    simp only [List.map_append, List.map_cons, List.map_nil, fWs_tok, aWs_tok, t1, List.append_assoc, List.cons_append, List.nil_append]
    rw [show tokOf "SELECT" = (("word", "SELECT") : Tk) by kernel_rfl, show tokOf "." = (("sign", ".") : Tk) by kernel_rfl]
  · cases opt with
    | false => rw [show ((if false = true then [("OPTIONAL" : Str)] else []).map tokOf : List Tk) = [] from rfl, List.nil_append, after_f t3, t2]
    | true =>
      have : heads ["OPTIONAL"] ((if true = true then [("OPTIONAL" : Str)] else []).map tokOf ++ (("word", nm) : Tk) :: (fToks (rotR r (restR d)) ++ (aToks 0 d.al ++ (("sign", ".") : Tk) :: tl))) = true := by kernel_rfl
      rw [after_t this]
      exact t2
  · have ht := restR_tags d
    refine reads_flds (rotR r (restR d)) [] (spec0 nm) _ (fun R m => restR_ok d R (rotR_mem m)) (fun R m q => nomatch q) (rotR_tags ht) ?_ (Nat.zero_le _) ?_
    · cases d.al with
      | nil => exact ⟨_, _, rfl, by decide +kernel⟩
      | cons b bs =>
        obtain ⟨r0, e0⟩ := altWs_s 0 b
        exact ⟨("word", "ALTERNATE"), r0 ++ aToks 1 bs ++ (("sign", ".") : Tk) :: tl, by show ((altWs 0 b).map tokOf ++ aToks 1 bs) ++ _ = _; rw [e0]; simp, by decide +kernel⟩
    · rw [rotR_fold ht, restR_fold d hd nm]
      exact reads_alts d.al hd.l2 rfl
  · have h1 : (rotR r (restR d)).length = (restR d).length := by unfold rotR; simp; omega
    have h2 := (rows_split d).1
    have h3 : (restR d).length ≤ d.rows.length := by
      have := congrArg List.length h2
      rw [List.length_map] at this
      rw [← this]
      exact List.length_filter_le _ _
    have h4 := (rows_count d).2
    have h5 := hd.l2
    omega
noncomputable def nmI : Nat → Str | 0 => "F0" | 1 => "F1" | _ => "F2"
theorem nmI_mem (i : Nat) : nmI i ∈ names3 := by
  match i with
  | 0 => decide +kernel
  | 1 => decide +kernel
  | n + 2 => show ("F2" : Str) ∈ names3; decide +kernel
theorem nmI_ne {i j : Nat} (hj : j < 3) (h : i < j) : (nmI i == nmI j) = false := by
  have : (i = 0 ∧ j = 1) ∨ (i = 0 ∧ j = 2) ∨ (i = 1 ∧ j = 2) := by omega
  rcases this with ⟨rfl, rfl⟩ | ⟨rfl, rfl⟩ | ⟨rfl, rfl⟩ <;> decide +kernel
noncomputable def envW : List Str := ["ENVIRONMENT", "DIVISION", "."]
noncomputable def ioW : List Str := ["INPUT-OUTPUT", "SECTION", ".", "FILE-CONTROL", "."]
noncomputable def scW : List Str := ["SOURCE-COMPUTER", ".", "ANY", "ONE", "."]
structure SelD where
  d : Dr
  r : Nat
  opt : Bool
noncomputable def SelD.Ok (s : SelD) : Prop := s.d.Ok ∧ s.r < (restL s.d.rows).length
noncomputable def selsWs : Nat → List SelD → List Str
  | _, [] => []
  | i, s :: l => selWs (nmI i) s.d s.r s.opt ++ selsWs (i + 1) l
noncomputable def selsS : Nat → List SelD → List Spec
  | _, [] => []
  | i, s :: l => selSpec (nmI i) s.d :: selsS (i + 1) l
theorem selsWs_snoc : ∀ (l : List SelD) (i : Nat) (s : SelD), selsWs i (l ++ [s]) = selsWs i l ++ selWs (nmI (i + l.length)) s.d s.r s.opt
  | [], i, s => by simp [selsWs]
  | t :: l, i, s => by
    show selWs (nmI i) t.d t.r t.opt ++ selsWs (i + 1) (l ++ [s]) = (selWs (nmI i) t.d t.r t.opt ++ selsWs (i + 1) l) ++ selWs (nmI (i + (l.length + 1))) s.d s.r s.opt
    rw [selsWs_snoc l (i + 1) s, show i + 1 + l.length = i + (l.length + 1) by omega, List.append_assoc]
theorem selsS_snoc : ∀ (l : List SelD) (i : Nat) (s : SelD), selsS i (l ++ [s]) = selsS i l ++ [selSpec (nmI (i + l.length)) s.d]
  | [], i, s => by simp [selsS]
  | t :: l, i, s => by
    show selSpec (nmI i) t.d :: selsS (i + 1) (l ++ [s]) = (selSpec (nmI i) t.d :: selsS (i + 1) l) ++ [selSpec (nmI (i + (l.length + 1))) s.d]
    rw [selsS_snoc l (i + 1) s, show i + 1 + l.length = i + (l.length + 1) by omega]; rfl
theorem selsWs_ok : ∀ (l : List SelD) (i : Nat), ∀ y ∈ selsWs i l, okw y
  | [], _, _, m => nomatch m
  | s :: l, i, y, m => by
    rcases List.mem_append.mp m with m | m
    · exact selWs_ok (nmI i) (nmI_mem i) s.d s.r s.opt y m
    · exact selsWs_ok l (i + 1) y m
theorem files_sels : ∀ (l : List SelD) (i : Nat) (names : List Str) (q : List Tk), (∀ s ∈ l, s.Ok) → i + l.length ≤ 3 → (∀ j, i ≤ j → j < 3 → names.any (· == nmI j) = false) → heads ["SELECT"] q = false → Files false l.length names ((selsWs i l).map tokOf ++ q) (selsS i l) q
  | [], i, names, q, _, _, _, hq => .done hq
  | s :: l, i, names, q, ho, hi, hn, hq => by
    obtain ⟨rem0, rem1, n, e1, e2, e3, e4⟩ := sel_reads (nmI i) (nmI_mem i) s.d (ho s (.head _)).1 s.r s.opt ((selsWs (i + 1) l).map tokOf ++ q)
    have e : (selsWs i (s :: l)).map tokOf ++ q = (("word", "SELECT") : Tk) :: rem0 := by
      show (selWs (nmI i) s.d s.r s.opt ++ selsWs (i + 1) l).map tokOf ++ q = _
      rw [List.map_append, List.append_assoc, e1]
    rw [e]
    have hw := whole_ok s.d (ho s (.head _)).1 (nmI i)
    have hlen : (s :: l).length = l.length + 1 := rfl
    rw [hlen] at hi ⊢
    refine .step (rb := false) (S := selSpec (nmI i) s.d) (by kernel_rfl) e2 e3 e4 (fun q => by rw [hw] at q; cases q) (fun _ q => ?_) (fun _ _ => ?_)
    · rw [show (selSpec (nmI i) s.d).name = nmI i from rfl, hn i (Nat.le_refl _) (by omega)] at q; cases q
    · refine files_sels l (i + 1) _ q (fun s m => ho s (.tail _ m)) (by omega) (fun j h1 h2 => ?_) hq
      rw [List.any_append, hn j (by omega) h2]
      show (nmI i == nmI j || false) = false
      rw [nmI_ne h2 (by omega)]; rfl
noncomputable def confS (c : Bool) : Str := if c then "CONFIGURATION SECTION . SOURCE-COMPUTER . ANY ONE . " else ""
noncomputable def confW (c : Bool) : List Str := if c then ["CONFIGURATION", "SECTION", ".", "SOURCE-COMPUTER", ".", "ANY", "ONE", "."] else []
noncomputable def ctlS (c : Bool) : Str := if c then "I-O-CONTROL . SAME AREA FOR F0 F1 . " else ""
noncomputable def ctlW (c : Bool) : List Str := if c then ["I-O-CONTROL", ".", "SAME", "AREA", "FOR", "F0", "F1", "."] else []
noncomputable def divS (c : Bool) : Str := if c then "PROCEDURE DIVISION" else "DATA DIVISION"
noncomputable def divW (c : Bool) : List Str := if c then ["PROCEDURE", "DIVISION"] else ["DATA", "DIVISION"]
theorem confS_W (c : Bool) : W (confS c) (confW c) := by cases c <;> (show cds _ = _; decide +kernel)
theorem ctlS_W (c : Bool) : W (ctlS c) (ctlW c) := by cases c <;> (show cds _ = _; decide +kernel)
theorem divS_J (c : Bool) : J (divS c) (divW c) := by cases c <;> exact ⟨by decide, by decide +kernel⟩
theorem conf_ok (c : Bool) : ∀ y ∈ confW c, okw y := by cases c <;> decide +kernel
theorem ctl_ok (c : Bool) : ∀ y ∈ ctlW c, okw y := by cases c <;> decide +kernel
theorem div_ok (c : Bool) : ∀ y ∈ divW c, okw y := by cases c <;> decide +kernel
theorem env_io (l : List SelD) (ho : ∀ s ∈ l, s.Ok) (hl : l.length ≤ 3) (c c2 v : Bool) :
    EnvR false ((envW ++ confW c ++ (ioW ++ selsWs 0 l ++ ctlW c2) ++ divW v).map tokOf) (selsS 0 l) ((divW v).map tokOf) := by
  have hq : heads ["SELECT"] ((ctlW c2 ++ divW v).map tokOf) = false := by cases c2 <;> cases v <;> kernel_rfl
  have hF := files_sels l 0 [] ((ctlW c2 ++ divW v).map tokOf) ho (by omega) (fun _ _ _ => rfl) hq
  have e : (envW ++ confW c ++ (ioW ++ selsWs 0 l ++ ctlW c2) ++ divW v).map tokOf
      = (envW ++ confW c ++ ioW).map tokOf ++ ((selsWs 0 l).map tokOf ++ (ctlW c2 ++ divW v).map tokOf) := by
    simp only [List.map_append, List.append_assoc]
  rw [e]
  generalize (selsWs 0 l).map tokOf ++ (ctlW c2 ++ divW v).map tokOf = r4 at *
  refine .io (fb := false) (r1 := (confW c ++ ioW).map tokOf ++ r4) (r2 := ioW.map tokOf ++ r4) (r3 := (["FILE-CONTROL", "."] : List Str).map tokOf ++ r4) (r4 := r4) ?_ ?_ ?_ ?_ ?_ ?_ ?_ hF (by omega) ?_ ?_
  · cases c <;> kernel_rfl
  · cases c <;> kernel_rfl
  · cases c with
    | false => exact (show heads ["CONFIGURATION", "SECTION"] (ioW.map tokOf ++ r4) = false by kernel_rfl) ▸ rfl
    | true =>
      have h1 : heads ["CONFIGURATION", "SECTION"] ((confW true ++ ioW).map tokOf ++ r4) = true := by kernel_rfl
      rw [if_pos h1]
      exact ⟨(scW ++ ioW).map tokOf ++ r4, by kernel_rfl, by kernel_rfl⟩
  · kernel_rfl
  · kernel_rfl
  · kernel_rfl
  · kernel_rfl
  · cases c2 <;> cases v <;> kernel_rfl
  · cases v <;> kernel_rfl
theorem env_noio (c v : Bool) : EnvR false ((envW ++ confW c ++ divW v).map tokOf) [] ((divW v).map tokOf) := by
  refine .noio (r1 := (confW c ++ divW v).map tokOf) ?_ ?_ ?_ ?_ ?_
  · cases c <;> cases v <;> kernel_rfl
  · cases c <;> cases v <;> kernel_rfl
  · cases c with
    | false =>
      have h1 : heads ["CONFIGURATION", "SECTION"] ((confW false ++ divW v).map tokOf) = false := by cases v <;> kernel_rfl
      rw [h1]; rfl
    | true =>
      have h1 : heads ["CONFIGURATION", "SECTION"] ((confW true ++ divW v).map tokOf) = true := by cases v <;> kernel_rfl
      rw [if_pos h1]
      exact ⟨(scW ++ divW v).map tokOf, by cases v <;> kernel_rfl, by cases v <;> kernel_rfl⟩
  · cases v <;> kernel_rfl
  · cases v <;> kernel_rfl
theorem div_heads (v : Bool) : heads ["DATA", "DIVISION"] ((divW v).map tokOf) = !v ∧ heads ["PROCEDURE", "DIVISION"] ((divW v).map tokOf) = v := by
  cases v <;> exact ⟨by kernel_rfl, by kernel_rfl⟩
noncomputable def wt (l : List Str) : List Tk := l.map tokOf
theorem ftt {X : Bool} {P : Prop} (h : X = false) (q : X = true) : P := by rw [h] at q; cases q
theorem ttf {X : Bool} {P : Prop} (h : X = true) (q : X = false) : P := by rw [h] at q; cases q
noncomputable def preT : Str := "ENVIRONMENT DIVISION . INPUT-OUTPUT SECTION . FILE-CONTROL . "
/-- a text that is refused -/
noncomputable def Bad (x : Str) : Prop := x.length ≤ 1000 ∧ ∃ ws Ss rem', J (preT ++ x) ws ∧ (∀ y ∈ ws, okw y) ∧ EnvR true (ws.map tokOf) Ss rem'
theorem env_bad {x : Str} {ws : List Str} {fb : Bool} {k : Nat} {Ss : List Spec} {r5 : List Tk} (hl : x.length ≤ 1000) (hJ : cds (preT ++ x) = jn ((envW ++ ioW ++ ws).map cds)) (hw : ∀ y ∈ ws, okw y) (hF : Files fb k [] (wt ws) Ss r5) (hk : k ≤ 1000)
    (hb : (fb || !behindB (if heads ["I-O-CONTROL"] r5 = true then untilP behindB (r5.drop 1) else r5)) = true) : Bad x := by
  refine ⟨hl, envW ++ ioW ++ ws, Ss, (if heads ["I-O-CONTROL"] r5 = true then untilP behindB (r5.drop 1) else r5), ⟨by simp [envW], hJ⟩, fun y m => ?_, ?_⟩
  · rcases List.mem_append.mp m with m | m
    · have : ∀ y ∈ envW ++ ioW, okw y := by decide +kernel
      exact this y m
    · exact hw y m
  · have e : (envW ++ ioW ++ ws).map tokOf = (envW ++ ioW).map tokOf ++ wt ws := List.map_append
    rw [e]
    generalize wt ws = r4 at *
    refine .io (fb := fb) (r1 := ioW.map tokOf ++ r4) (r2 := ioW.map tokOf ++ r4) (r3 := (["FILE-CONTROL", "."] : List Str).map tokOf ++ r4) (r4 := r4) ?_ ?_ ?_ ?_ ?_ ?_ ?_ hF hk rfl hb.symm
    · kernel_rfl
    · kernel_rfl
    · exact (show heads ["CONFIGURATION", "SECTION"] (ioW.map tokOf ++ r4) = false by kernel_rfl) ▸ rfl
    · kernel_rfl
    · kernel_rfl
    · kernel_rfl
    · kernel_rfl
theorem bad_0 : Bad "SELECT F ASSIGN D INDEXED ." :=
  env_bad (ws := ["SELECT", "F", "ASSIGN", "D", "INDEXED", "."]) (fb := true) (k := 1) (Ss := [⟨"F", "D", "indexed", "sequential", "", [], "", ""⟩]) (r5 := []) (by decide +kernel) (by decide +kernel) (by decide +kernel) (show Files true 1 [] (wt ["SELECT", "F", "ASSIGN", "D", "INDEXED", "."]) [⟨"F", "D", "indexed", "sequential", "", [], "", ""⟩] [] from .step (k := 0) (Ss := []) (rem' := []) (rb := false) (n := 2) (nm := "F") (rem := (wt ["SELECT", "F", "ASSIGN", "D", "INDEXED", "."])) (rem1 := (wt ["ASSIGN", "D", "INDEXED", "."])) (S := ⟨"F", "D", "indexed", "sequential", "", [], "", ""⟩) (rem2 := ((wt ["."])).tail) (by kernel_rfl) (by kernel_rfl) (show Reads false 2 [] (spec0 "F") (wt ["ASSIGN", "D", "INDEXED", "."]) ⟨"F", "D", "indexed", "sequential", "", [], "", ""⟩ ((wt ["."])).tail from .step (cb := false) (x := "ASSIGN") (S' := ⟨"F", "D", "sequential", "sequential", "", [], "", ""⟩) (rem' := (wt ["INDEXED", "."])) (rem := (wt ["ASSIGN", "D", "INDEXED", "."])) (S := ⟨"F", "", "sequential", "sequential", "", [], "", ""⟩) (by kernel_rfl) (List.cons_ne_nil _ _) (.inl ⟨rfl, by kernel_rfl⟩) (by decide) (by decide +kernel) (fun q => nomatch q) (fun _ q => ftt (by kernel_rfl) q) (fun _ _ => .step (cb := false) (x := "ORGANIZATION") (S' := ⟨"F", "D", "indexed", "sequential", "", [], "", ""⟩) (rem' := (wt ["."])) (rem := (wt ["INDEXED", "."])) (S := ⟨"F", "D", "sequential", "sequential", "", [], "", ""⟩) (by kernel_rfl) (List.cons_ne_nil _ _) (.inl ⟨rfl, by kernel_rfl⟩) (by decide) (by decide +kernel) (fun q => nomatch q) (fun _ q => ftt (by kernel_rfl) q) (fun _ _ => .done (by kernel_rfl)))) (by decide) (fun _ => rfl) (fun _ _ => rfl) (fun q _ => ttf (by kernel_rfl) q)) (by decide) (by kernel_rfl)
theorem bad_1 : Bad "SELECT F ASSIGN D RECORD K ." :=
  env_bad (ws := ["SELECT", "F", "ASSIGN", "D", "RECORD", "K", "."]) (fb := true) (k := 1) (Ss := [⟨"F", "D", "sequential", "sequential", "K", [], "", ""⟩]) (r5 := []) (by decide +kernel) (by decide +kernel) (by decide +kernel) (show Files true 1 [] (wt ["SELECT", "F", "ASSIGN", "D", "RECORD", "K", "."]) [⟨"F", "D", "sequential", "sequential", "K", [], "", ""⟩] [] from .step (k := 0) (Ss := []) (rem' := []) (rb := false) (n := 2) (nm := "F") (rem := (wt ["SELECT", "F", "ASSIGN", "D", "RECORD", "K", "."])) (rem1 := (wt ["ASSIGN", "D", "RECORD", "K", "."])) (S := ⟨"F", "D", "sequential", "sequential", "K", [], "", ""⟩) (rem2 := ((wt ["."])).tail) (by kernel_rfl) (by kernel_rfl) (show Reads false 2 [] (spec0 "F") (wt ["ASSIGN", "D", "RECORD", "K", "."]) ⟨"F", "D", "sequential", "sequential", "K", [], "", ""⟩ ((wt ["."])).tail from .step (cb := false) (x := "ASSIGN") (S' := ⟨"F", "D", "sequential", "sequential", "", [], "", ""⟩) (rem' := (wt ["RECORD", "K", "."])) (rem := (wt ["ASSIGN", "D", "RECORD", "K", "."])) (S := ⟨"F", "", "sequential", "sequential", "", [], "", ""⟩) (by kernel_rfl) (List.cons_ne_nil _ _) (.inl ⟨rfl, by kernel_rfl⟩) (by decide) (by decide +kernel) (fun q => nomatch q) (fun _ q => ftt (by kernel_rfl) q) (fun _ _ => .step (cb := false) (x := "RECORD") (S' := ⟨"F", "D", "sequential", "sequential", "K", [], "", ""⟩) (rem' := (wt ["."])) (rem := (wt ["RECORD", "K", "."])) (S := ⟨"F", "D", "sequential", "sequential", "", [], "", ""⟩) (by kernel_rfl) (List.cons_ne_nil _ _) (.inl ⟨rfl, by kernel_rfl⟩) (by decide) (by decide +kernel) (fun q => nomatch q) (fun _ q => ftt (by kernel_rfl) q) (fun _ _ => .done (by kernel_rfl)))) (by decide) (fun _ => rfl) (fun _ _ => rfl) (fun q _ => ttf (by kernel_rfl) q)) (by decide) (by kernel_rfl)
theorem bad_2 : Bad "SELECT F ASSIGN D RELATIVE ACCESS RANDOM ." :=
  env_bad (ws := ["SELECT", "F", "ASSIGN", "D", "RELATIVE", "ACCESS", "RANDOM", "."]) (fb := true) (k := 1) (Ss := [⟨"F", "D", "relative", "random", "", [], "", ""⟩]) (r5 := []) (by decide +kernel) (by decide +kernel) (by decide +kernel) (show Files true 1 [] (wt ["SELECT", "F", "ASSIGN", "D", "RELATIVE", "ACCESS", "RANDOM", "."]) [⟨"F", "D", "relative", "random", "", [], "", ""⟩] [] from .step (k := 0) (Ss := []) (rem' := []) (rb := false) (n := 3) (nm := "F") (rem := (wt ["SELECT", "F", "ASSIGN", "D", "RELATIVE", "ACCESS", "RANDOM", "."])) (rem1 := (wt ["ASSIGN", "D", "RELATIVE", "ACCESS", "RANDOM", "."])) (S := ⟨"F", "D", "relative", "random", "", [], "", ""⟩) (rem2 := ((wt ["."])).tail) (by kernel_rfl) (by kernel_rfl) (show Reads false 3 [] (spec0 "F") (wt ["ASSIGN", "D", "RELATIVE", "ACCESS", "RANDOM", "."]) ⟨"F", "D", "relative", "random", "", [], "", ""⟩ ((wt ["."])).tail from .step (cb := false) (x := "ASSIGN") (S' := ⟨"F", "D", "sequential", "sequential", "", [], "", ""⟩) (rem' := (wt ["RELATIVE", "ACCESS", "RANDOM", "."])) (rem := (wt ["ASSIGN", "D", "RELATIVE", "ACCESS", "RANDOM", "."])) (S := ⟨"F", "", "sequential", "sequential", "", [], "", ""⟩) (by kernel_rfl) (List.cons_ne_nil _ _) (.inl ⟨rfl, by kernel_rfl⟩) (by decide) (by decide +kernel) (fun q => nomatch q) (fun _ q => ftt (by kernel_rfl) q) (fun _ _ => .step (cb := false) (x := "ORGANIZATION") (S' := ⟨"F", "D", "relative", "sequential", "", [], "", ""⟩) (rem' := (wt ["ACCESS", "RANDOM", "."])) (rem := (wt ["RELATIVE", "ACCESS", "RANDOM", "."])) (S := ⟨"F", "D", "sequential", "sequential", "", [], "", ""⟩) (by kernel_rfl) (List.cons_ne_nil _ _) (.inl ⟨rfl, by kernel_rfl⟩) (by decide) (by decide +kernel) (fun q => nomatch q) (fun _ q => ftt (by kernel_rfl) q) (fun _ _ => .step (cb := false) (x := "ACCESS") (S' := ⟨"F", "D", "relative", "random", "", [], "", ""⟩) (rem' := (wt ["."])) (rem := (wt ["ACCESS", "RANDOM", "."])) (S := ⟨"F", "D", "relative", "sequential", "", [], "", ""⟩) (by kernel_rfl) (List.cons_ne_nil _ _) (.inl ⟨rfl, by kernel_rfl⟩) (by decide) (by decide +kernel) (fun q => nomatch q) (fun _ q => ftt (by kernel_rfl) q) (fun _ _ => .done (by kernel_rfl))))) (by decide) (fun _ => rfl) (fun _ _ => rfl) (fun q _ => ttf (by kernel_rfl) q)) (by decide) (by kernel_rfl)
theorem bad_3 : Bad "SELECT F ASSIGN D ACCESS DYNAMIC ." :=
  env_bad (ws := ["SELECT", "F", "ASSIGN", "D", "ACCESS", "DYNAMIC", "."]) (fb := true) (k := 1) (Ss := [⟨"F", "D", "sequential", "dynamic", "", [], "", ""⟩]) (r5 := []) (by decide +kernel) (by decide +kernel) (by decide +kernel) (show Files true 1 [] (wt ["SELECT", "F", "ASSIGN", "D", "ACCESS", "DYNAMIC", "."]) [⟨"F", "D", "sequential", "dynamic", "", [], "", ""⟩] [] from .step (k := 0) (Ss := []) (rem' := []) (rb := false) (n := 2) (nm := "F") (rem := (wt ["SELECT", "F", "ASSIGN", "D", "ACCESS", "DYNAMIC", "."])) (rem1 := (wt ["ASSIGN", "D", "ACCESS", "DYNAMIC", "."])) (S := ⟨"F", "D", "sequential", "dynamic", "", [], "", ""⟩) (rem2 := ((wt ["."])).tail) (by kernel_rfl) (by kernel_rfl) (show Reads false 2 [] (spec0 "F") (wt ["ASSIGN", "D", "ACCESS", "DYNAMIC", "."]) ⟨"F", "D", "sequential", "dynamic", "", [], "", ""⟩ ((wt ["."])).tail from .step (cb := false) (x := "ASSIGN") (S' := ⟨"F", "D", "sequential", "sequential", "", [], "", ""⟩) (rem' := (wt ["ACCESS", "DYNAMIC", "."])) (rem := (wt ["ASSIGN", "D", "ACCESS", "DYNAMIC", "."])) (S := ⟨"F", "", "sequential", "sequential", "", [], "", ""⟩) (by kernel_rfl) (List.cons_ne_nil _ _) (.inl ⟨rfl, by kernel_rfl⟩) (by decide) (by decide +kernel) (fun q => nomatch q) (fun _ q => ftt (by kernel_rfl) q) (fun _ _ => .step (cb := false) (x := "ACCESS") (S' := ⟨"F", "D", "sequential", "dynamic", "", [], "", ""⟩) (rem' := (wt ["."])) (rem := (wt ["ACCESS", "DYNAMIC", "."])) (S := ⟨"F", "D", "sequential", "sequential", "", [], "", ""⟩) (by kernel_rfl) (List.cons_ne_nil _ _) (.inl ⟨rfl, by kernel_rfl⟩) (by decide) (by decide +kernel) (fun q => nomatch q) (fun _ q => ftt (by kernel_rfl) q) (fun _ _ => .done (by kernel_rfl)))) (by decide) (fun _ => rfl) (fun _ _ => rfl) (fun q _ => ttf (by kernel_rfl) q)) (by decide) (by kernel_rfl)
theorem bad_4 : Bad "SELECT F SEQUENTIAL ." :=
  env_bad (ws := ["SELECT", "F", "SEQUENTIAL", "."]) (fb := true) (k := 1) (Ss := [⟨"F", "", "sequential", "sequential", "", [], "", ""⟩]) (r5 := []) (by decide +kernel) (by decide +kernel) (by decide +kernel) (show Files true 1 [] (wt ["SELECT", "F", "SEQUENTIAL", "."]) [⟨"F", "", "sequential", "sequential", "", [], "", ""⟩] [] from .step (k := 0) (Ss := []) (rem' := []) (rb := false) (n := 1) (nm := "F") (rem := (wt ["SELECT", "F", "SEQUENTIAL", "."])) (rem1 := (wt ["SEQUENTIAL", "."])) (S := ⟨"F", "", "sequential", "sequential", "", [], "", ""⟩) (rem2 := ((wt ["."])).tail) (by kernel_rfl) (by kernel_rfl) (show Reads false 1 [] (spec0 "F") (wt ["SEQUENTIAL", "."]) ⟨"F", "", "sequential", "sequential", "", [], "", ""⟩ ((wt ["."])).tail from .step (cb := false) (x := "ORGANIZATION") (S' := ⟨"F", "", "sequential", "sequential", "", [], "", ""⟩) (rem' := (wt ["."])) (rem := (wt ["SEQUENTIAL", "."])) (S := ⟨"F", "", "sequential", "sequential", "", [], "", ""⟩) (by kernel_rfl) (List.cons_ne_nil _ _) (.inl ⟨rfl, by kernel_rfl⟩) (by decide) (by decide +kernel) (fun q => nomatch q) (fun _ q => ftt (by kernel_rfl) q) (fun _ _ => .done (by kernel_rfl))) (by decide) (fun _ => rfl) (fun _ _ => rfl) (fun q _ => ttf (by kernel_rfl) q)) (by decide) (by kernel_rfl)
theorem bad_5 : Bad "SELECT F ASSIGN D ASSIGN E ." :=
  env_bad (ws := ["SELECT", "F", "ASSIGN", "D", "ASSIGN", "E", "."]) (fb := true) (k := 1) (Ss := [⟨"F", "E", "sequential", "sequential", "", [], "", ""⟩]) (r5 := []) (by decide +kernel) (by decide +kernel) (by decide +kernel) (show Files true 1 [] (wt ["SELECT", "F", "ASSIGN", "D", "ASSIGN", "E", "."]) [⟨"F", "E", "sequential", "sequential", "", [], "", ""⟩] [] from .step (k := 0) (Ss := []) (rem' := []) (rb := true) (n := 2) (nm := "F") (rem := (wt ["SELECT", "F", "ASSIGN", "D", "ASSIGN", "E", "."])) (rem1 := (wt ["ASSIGN", "D", "ASSIGN", "E", "."])) (S := ⟨"F", "E", "sequential", "sequential", "", [], "", ""⟩) (rem2 := []) (by kernel_rfl) (by kernel_rfl) (show Reads true 2 [] (spec0 "F") (wt ["ASSIGN", "D", "ASSIGN", "E", "."]) ⟨"F", "E", "sequential", "sequential", "", [], "", ""⟩ [] from .step (cb := false) (x := "ASSIGN") (S' := ⟨"F", "D", "sequential", "sequential", "", [], "", ""⟩) (rem' := (wt ["ASSIGN", "E", "."])) (rem := (wt ["ASSIGN", "D", "ASSIGN", "E", "."])) (S := ⟨"F", "", "sequential", "sequential", "", [], "", ""⟩) (by kernel_rfl) (List.cons_ne_nil _ _) (.inl ⟨rfl, by kernel_rfl⟩) (by decide) (by decide +kernel) (fun q => nomatch q) (fun _ q => ftt (by kernel_rfl) q) (fun _ _ => .step (cb := false) (x := "ASSIGN") (S' := ⟨"F", "E", "sequential", "sequential", "", [], "", ""⟩) (rem' := (wt ["."])) (rem := (wt ["ASSIGN", "E", "."])) (S := ⟨"F", "D", "sequential", "sequential", "", [], "", ""⟩) (by kernel_rfl) (List.cons_ne_nil _ _) (.inl ⟨rfl, by kernel_rfl⟩) (by decide) (by decide +kernel) (fun q => nomatch q) (fun _ _ => rfl) (fun _ q => ttf (by kernel_rfl) q))) (by decide) (fun _ => rfl) (fun _ _ => rfl) (fun q _ => ttf (by kernel_rfl) q)) (by decide) (by kernel_rfl)
theorem bad_6 : Bad "SELECT F ASSIGN D . SELECT F ASSIGN E ." :=
  env_bad (ws := ["SELECT", "F", "ASSIGN", "D", ".", "SELECT", "F", "ASSIGN", "E", "."]) (fb := true) (k := 2) (Ss := (⟨"F", "D", "sequential", "sequential", "", [], "", ""⟩ :: [⟨"F", "E", "sequential", "sequential", "", [], "", ""⟩])) (r5 := []) (by decide +kernel) (by decide +kernel) (by decide +kernel) (show Files true 2 [] (wt ["SELECT", "F", "ASSIGN", "D", ".", "SELECT", "F", "ASSIGN", "E", "."]) (⟨"F", "D", "sequential", "sequential", "", [], "", ""⟩ :: [⟨"F", "E", "sequential", "sequential", "", [], "", ""⟩]) [] from .step (k := 1) (Ss := [⟨"F", "E", "sequential", "sequential", "", [], "", ""⟩]) (rem' := []) (rb := false) (n := 1) (nm := "F") (rem := (wt ["SELECT", "F", "ASSIGN", "D", ".", "SELECT", "F", "ASSIGN", "E", "."])) (rem1 := (wt ["ASSIGN", "D", ".", "SELECT", "F", "ASSIGN", "E", "."])) (S := ⟨"F", "D", "sequential", "sequential", "", [], "", ""⟩) (rem2 := ((wt [".", "SELECT", "F", "ASSIGN", "E", "."])).tail) (by kernel_rfl) (by kernel_rfl) (show Reads false 1 [] (spec0 "F") (wt ["ASSIGN", "D", ".", "SELECT", "F", "ASSIGN", "E", "."]) ⟨"F", "D", "sequential", "sequential", "", [], "", ""⟩ ((wt [".", "SELECT", "F", "ASSIGN", "E", "."])).tail from .step (cb := false) (x := "ASSIGN") (S' := ⟨"F", "D", "sequential", "sequential", "", [], "", ""⟩) (rem' := (wt [".", "SELECT", "F", "ASSIGN", "E", "."])) (rem := (wt ["ASSIGN", "D", ".", "SELECT", "F", "ASSIGN", "E", "."])) (S := ⟨"F", "", "sequential", "sequential", "", [], "", ""⟩) (by kernel_rfl) (List.cons_ne_nil _ _) (.inl ⟨rfl, by kernel_rfl⟩) (by decide) (by decide +kernel) (fun q => nomatch q) (fun _ q => ftt (by kernel_rfl) q) (fun _ _ => .done (by kernel_rfl))) (by decide) (fun q => ftt (by kernel_rfl) q) (fun _ q => ftt (by kernel_rfl) q) (fun _ _ => show Files true 1 ["F"] ((wt [".", "SELECT", "F", "ASSIGN", "E", "."])).tail [⟨"F", "E", "sequential", "sequential", "", [], "", ""⟩] [] from .step (k := 0) (Ss := []) (rem' := []) (rb := false) (n := 1) (nm := "F") (rem := (wt ["SELECT", "F", "ASSIGN", "E", "."])) (rem1 := (wt ["ASSIGN", "E", "."])) (S := ⟨"F", "E", "sequential", "sequential", "", [], "", ""⟩) (rem2 := ((wt ["."])).tail) (by kernel_rfl) (by kernel_rfl) (show Reads false 1 [] (spec0 "F") (wt ["ASSIGN", "E", "."]) ⟨"F", "E", "sequential", "sequential", "", [], "", ""⟩ ((wt ["."])).tail from .step (cb := false) (x := "ASSIGN") (S' := ⟨"F", "E", "sequential", "sequential", "", [], "", ""⟩) (rem' := (wt ["."])) (rem := (wt ["ASSIGN", "E", "."])) (S := ⟨"F", "", "sequential", "sequential", "", [], "", ""⟩) (by kernel_rfl) (List.cons_ne_nil _ _) (.inl ⟨rfl, by kernel_rfl⟩) (by decide) (by decide +kernel) (fun q => nomatch q) (fun _ q => ftt (by kernel_rfl) q) (fun _ _ => .done (by kernel_rfl))) (by decide) (fun _ => rfl) (fun _ _ => rfl) (fun _ q => ttf (by kernel_rfl) q))) (by decide) (by kernel_rfl)
theorem bad_7 : Bad "SELECT F ASSIGN D" :=
  env_bad (ws := ["SELECT", "F", "ASSIGN", "D"]) (fb := true) (k := 1) (Ss := [⟨"F", "D", "sequential", "sequential", "", [], "", ""⟩]) (r5 := []) (by decide +kernel) (by decide +kernel) (by decide +kernel) (show Files true 1 [] (wt ["SELECT", "F", "ASSIGN", "D"]) [⟨"F", "D", "sequential", "sequential", "", [], "", ""⟩] [] from .step (k := 0) (Ss := []) (rem' := []) (rb := true) (n := 1) (nm := "F") (rem := (wt ["SELECT", "F", "ASSIGN", "D"])) (rem1 := (wt ["ASSIGN", "D"])) (S := ⟨"F", "D", "sequential", "sequential", "", [], "", ""⟩) (rem2 := []) (by kernel_rfl) (by kernel_rfl) (show Reads true 1 [] (spec0 "F") (wt ["ASSIGN", "D"]) ⟨"F", "D", "sequential", "sequential", "", [], "", ""⟩ [] from .step (cb := false) (x := "ASSIGN") (S' := ⟨"F", "D", "sequential", "sequential", "", [], "", ""⟩) (rem' := (wt [])) (rem := (wt ["ASSIGN", "D"])) (S := ⟨"F", "", "sequential", "sequential", "", [], "", ""⟩) (by kernel_rfl) (List.cons_ne_nil _ _) (.inl ⟨rfl, by kernel_rfl⟩) (by decide) (by decide +kernel) (fun q => nomatch q) (fun _ q => ftt (by kernel_rfl) q) (fun _ _ => .stop)) (by decide) (fun _ => rfl) (fun _ _ => rfl) (fun q _ => ttf (by kernel_rfl) q)) (by decide) (by kernel_rfl)
theorem bad_8 : Bad "SELECT F ASSIGN D INDEXED RECORD K ALTERNATE J ALTERNATE J ." :=
  env_bad (ws := ["SELECT", "F", "ASSIGN", "D", "INDEXED", "RECORD", "K", "ALTERNATE", "J", "ALTERNATE", "J", "."]) (fb := true) (k := 1) (Ss := [⟨"F", "D", "indexed", "sequential", "K", [("J", false)], "", ""⟩]) (r5 := []) (by decide +kernel) (by decide +kernel) (by decide +kernel) (show Files true 1 [] (wt ["SELECT", "F", "ASSIGN", "D", "INDEXED", "RECORD", "K", "ALTERNATE", "J", "ALTERNATE", "J", "."]) [⟨"F", "D", "indexed", "sequential", "K", [("J", false)], "", ""⟩] [] from .step (k := 0) (Ss := []) (rem' := []) (rb := true) (n := 5) (nm := "F") (rem := (wt ["SELECT", "F", "ASSIGN", "D", "INDEXED", "RECORD", "K", "ALTERNATE", "J", "ALTERNATE", "J", "."])) (rem1 := (wt ["ASSIGN", "D", "INDEXED", "RECORD", "K", "ALTERNATE", "J", "ALTERNATE", "J", "."])) (S := ⟨"F", "D", "indexed", "sequential", "K", [("J", false)], "", ""⟩) (rem2 := []) (by kernel_rfl) (by kernel_rfl) (show Reads true 5 [] (spec0 "F") (wt ["ASSIGN", "D", "INDEXED", "RECORD", "K", "ALTERNATE", "J", "ALTERNATE", "J", "."]) ⟨"F", "D", "indexed", "sequential", "K", [("J", false)], "", ""⟩ [] from .step (cb := false) (x := "ASSIGN") (S' := ⟨"F", "D", "sequential", "sequential", "", [], "", ""⟩) (rem' := (wt ["INDEXED", "RECORD", "K", "ALTERNATE", "J", "ALTERNATE", "J", "."])) (rem := (wt ["ASSIGN", "D", "INDEXED", "RECORD", "K", "ALTERNATE", "J", "ALTERNATE", "J", "."])) (S := ⟨"F", "", "sequential", "sequential", "", [], "", ""⟩) (by kernel_rfl) (List.cons_ne_nil _ _) (.inl ⟨rfl, by kernel_rfl⟩) (by decide) (by decide +kernel) (fun q => nomatch q) (fun _ q => ftt (by kernel_rfl) q) (fun _ _ => .step (cb := false) (x := "ORGANIZATION") (S' := ⟨"F", "D", "indexed", "sequential", "", [], "", ""⟩) (rem' := (wt ["RECORD", "K", "ALTERNATE", "J", "ALTERNATE", "J", "."])) (rem := (wt ["INDEXED", "RECORD", "K", "ALTERNATE", "J", "ALTERNATE", "J", "."])) (S := ⟨"F", "D", "sequential", "sequential", "", [], "", ""⟩) (by kernel_rfl) (List.cons_ne_nil _ _) (.inl ⟨rfl, by kernel_rfl⟩) (by decide) (by decide +kernel) (fun q => nomatch q) (fun _ q => ftt (by kernel_rfl) q) (fun _ _ => .step (cb := false) (x := "RECORD") (S' := ⟨"F", "D", "indexed", "sequential", "K", [], "", ""⟩) (rem' := (wt ["ALTERNATE", "J", "ALTERNATE", "J", "."])) (rem := (wt ["RECORD", "K", "ALTERNATE", "J", "ALTERNATE", "J", "."])) (S := ⟨"F", "D", "indexed", "sequential", "", [], "", ""⟩) (by kernel_rfl) (List.cons_ne_nil _ _) (.inl ⟨rfl, by kernel_rfl⟩) (by decide) (by decide +kernel) (fun q => nomatch q) (fun _ q => ftt (by kernel_rfl) q) (fun _ _ => .step (cb := false) (x := "ALTERNATE") (S' := ⟨"F", "D", "indexed", "sequential", "K", [("J", false)], "", ""⟩) (rem' := (wt ["ALTERNATE", "J", "."])) (rem := (wt ["ALTERNATE", "J", "ALTERNATE", "J", "."])) (S := ⟨"F", "D", "indexed", "sequential", "K", [], "", ""⟩) (by kernel_rfl) (List.cons_ne_nil _ _) (.inl ⟨rfl, by kernel_rfl⟩) (by decide) (by decide +kernel) (fun q => nomatch q) (fun _ q => ftt (by kernel_rfl) q) (fun _ _ => .step (cb := true) (n := 0) (x := "") (S' := ⟨"F", "D", "indexed", "sequential", "K", [("J", false)], "", ""⟩) (rem' := []) (rem := (wt ["ALTERNATE", "J", "."])) (S := ⟨"F", "D", "indexed", "sequential", "K", [("J", false)], "", ""⟩) (by kernel_rfl) (List.cons_ne_nil _ _) (.inr ⟨rfl, by kernel_rfl, by kernel_rfl, by kernel_rfl, by kernel_rfl, ("J", wt ["."]), by kernel_rfl, by kernel_rfl⟩) (by decide) (by decide +kernel) (fun _ => rfl) (fun q => nomatch q) (fun q => nomatch q)))))) (by decide) (fun _ => rfl) (fun _ _ => rfl) (fun q _ => ttf (by kernel_rfl) q)) (by decide) (by kernel_rfl)
theorem bad_9 : Bad "SELECT F ASSIGN D STATUS S STATUS T ." :=
  env_bad (ws := ["SELECT", "F", "ASSIGN", "D", "STATUS", "S", "STATUS", "T", "."]) (fb := true) (k := 1) (Ss := [⟨"F", "D", "sequential", "sequential", "", [], "", "T"⟩]) (r5 := []) (by decide +kernel) (by decide +kernel) (by decide +kernel) (show Files true 1 [] (wt ["SELECT", "F", "ASSIGN", "D", "STATUS", "S", "STATUS", "T", "."]) [⟨"F", "D", "sequential", "sequential", "", [], "", "T"⟩] [] from .step (k := 0) (Ss := []) (rem' := []) (rb := true) (n := 3) (nm := "F") (rem := (wt ["SELECT", "F", "ASSIGN", "D", "STATUS", "S", "STATUS", "T", "."])) (rem1 := (wt ["ASSIGN", "D", "STATUS", "S", "STATUS", "T", "."])) (S := ⟨"F", "D", "sequential", "sequential", "", [], "", "T"⟩) (rem2 := []) (by kernel_rfl) (by kernel_rfl) (show Reads true 3 [] (spec0 "F") (wt ["ASSIGN", "D", "STATUS", "S", "STATUS", "T", "."]) ⟨"F", "D", "sequential", "sequential", "", [], "", "T"⟩ [] from .step (cb := false) (x := "ASSIGN") (S' := ⟨"F", "D", "sequential", "sequential", "", [], "", ""⟩) (rem' := (wt ["STATUS", "S", "STATUS", "T", "."])) (rem := (wt ["ASSIGN", "D", "STATUS", "S", "STATUS", "T", "."])) (S := ⟨"F", "", "sequential", "sequential", "", [], "", ""⟩) (by kernel_rfl) (List.cons_ne_nil _ _) (.inl ⟨rfl, by kernel_rfl⟩) (by decide) (by decide +kernel) (fun q => nomatch q) (fun _ q => ftt (by kernel_rfl) q) (fun _ _ => .step (cb := false) (x := "STATUS") (S' := ⟨"F", "D", "sequential", "sequential", "", [], "", "S"⟩) (rem' := (wt ["STATUS", "T", "."])) (rem := (wt ["STATUS", "S", "STATUS", "T", "."])) (S := ⟨"F", "D", "sequential", "sequential", "", [], "", ""⟩) (by kernel_rfl) (List.cons_ne_nil _ _) (.inl ⟨rfl, by kernel_rfl⟩) (by decide) (by decide +kernel) (fun q => nomatch q) (fun _ q => ftt (by kernel_rfl) q) (fun _ _ => .step (cb := false) (x := "STATUS") (S' := ⟨"F", "D", "sequential", "sequential", "", [], "", "T"⟩) (rem' := (wt ["."])) (rem := (wt ["STATUS", "T", "."])) (S := ⟨"F", "D", "sequential", "sequential", "", [], "", "S"⟩) (by kernel_rfl) (List.cons_ne_nil _ _) (.inl ⟨rfl, by kernel_rfl⟩) (by decide) (by decide +kernel) (fun q => nomatch q) (fun _ _ => rfl) (fun _ q => ttf (by kernel_rfl) q)))) (by decide) (fun _ => rfl) (fun _ _ => rfl) (fun q _ => ttf (by kernel_rfl) q)) (by decide) (by kernel_rfl)
theorem bad_10 : Bad "SELECT F ASSIGN D RELATIVE KEY R ." :=
  env_bad (ws := ["SELECT", "F", "ASSIGN", "D", "RELATIVE", "KEY", "R", "."]) (fb := true) (k := 1) (Ss := [⟨"F", "D", "sequential", "sequential", "", [], "R", ""⟩]) (r5 := []) (by decide +kernel) (by decide +kernel) (by decide +kernel) (show Files true 1 [] (wt ["SELECT", "F", "ASSIGN", "D", "RELATIVE", "KEY", "R", "."]) [⟨"F", "D", "sequential", "sequential", "", [], "R", ""⟩] [] from .step (k := 0) (Ss := []) (rem' := []) (rb := false) (n := 2) (nm := "F") (rem := (wt ["SELECT", "F", "ASSIGN", "D", "RELATIVE", "KEY", "R", "."])) (rem1 := (wt ["ASSIGN", "D", "RELATIVE", "KEY", "R", "."])) (S := ⟨"F", "D", "sequential", "sequential", "", [], "R", ""⟩) (rem2 := ((wt ["."])).tail) (by kernel_rfl) (by kernel_rfl) (show Reads false 2 [] (spec0 "F") (wt ["ASSIGN", "D", "RELATIVE", "KEY", "R", "."]) ⟨"F", "D", "sequential", "sequential", "", [], "R", ""⟩ ((wt ["."])).tail from .step (cb := false) (x := "ASSIGN") (S' := ⟨"F", "D", "sequential", "sequential", "", [], "", ""⟩) (rem' := (wt ["RELATIVE", "KEY", "R", "."])) (rem := (wt ["ASSIGN", "D", "RELATIVE", "KEY", "R", "."])) (S := ⟨"F", "", "sequential", "sequential", "", [], "", ""⟩) (by kernel_rfl) (List.cons_ne_nil _ _) (.inl ⟨rfl, by kernel_rfl⟩) (by decide) (by decide +kernel) (fun q => nomatch q) (fun _ q => ftt (by kernel_rfl) q) (fun _ _ => .step (cb := false) (x := "RELATIVE KEY") (S' := ⟨"F", "D", "sequential", "sequential", "", [], "R", ""⟩) (rem' := (wt ["."])) (rem := (wt ["RELATIVE", "KEY", "R", "."])) (S := ⟨"F", "D", "sequential", "sequential", "", [], "", ""⟩) (by kernel_rfl) (List.cons_ne_nil _ _) (.inl ⟨rfl, by kernel_rfl⟩) (by decide) (by decide +kernel) (fun q => nomatch q) (fun _ q => ftt (by kernel_rfl) q) (fun _ _ => .done (by kernel_rfl)))) (by decide) (fun _ => rfl) (fun _ _ => rfl) (fun q _ => ttf (by kernel_rfl) q)) (by decide) (by kernel_rfl)
theorem bad_11 : Bad "SELECT F ASSIGN D ALTERNATE J ." :=
  env_bad (ws := ["SELECT", "F", "ASSIGN", "D", "ALTERNATE", "J", "."]) (fb := true) (k := 1) (Ss := [⟨"F", "D", "sequential", "sequential", "", [("J", false)], "", ""⟩]) (r5 := []) (by decide +kernel) (by decide +kernel) (by decide +kernel) (show Files true 1 [] (wt ["SELECT", "F", "ASSIGN", "D", "ALTERNATE", "J", "."]) [⟨"F", "D", "sequential", "sequential", "", [("J", false)], "", ""⟩] [] from .step (k := 0) (Ss := []) (rem' := []) (rb := false) (n := 2) (nm := "F") (rem := (wt ["SELECT", "F", "ASSIGN", "D", "ALTERNATE", "J", "."])) (rem1 := (wt ["ASSIGN", "D", "ALTERNATE", "J", "."])) (S := ⟨"F", "D", "sequential", "sequential", "", [("J", false)], "", ""⟩) (rem2 := ((wt ["."])).tail) (by kernel_rfl) (by kernel_rfl) (show Reads false 2 [] (spec0 "F") (wt ["ASSIGN", "D", "ALTERNATE", "J", "."]) ⟨"F", "D", "sequential", "sequential", "", [("J", false)], "", ""⟩ ((wt ["."])).tail from .step (cb := false) (x := "ASSIGN") (S' := ⟨"F", "D", "sequential", "sequential", "", [], "", ""⟩) (rem' := (wt ["ALTERNATE", "J", "."])) (rem := (wt ["ASSIGN", "D", "ALTERNATE", "J", "."])) (S := ⟨"F", "", "sequential", "sequential", "", [], "", ""⟩) (by kernel_rfl) (List.cons_ne_nil _ _) (.inl ⟨rfl, by kernel_rfl⟩) (by decide) (by decide +kernel) (fun q => nomatch q) (fun _ q => ftt (by kernel_rfl) q) (fun _ _ => .step (cb := false) (x := "ALTERNATE") (S' := ⟨"F", "D", "sequential", "sequential", "", [("J", false)], "", ""⟩) (rem' := (wt ["."])) (rem := (wt ["ALTERNATE", "J", "."])) (S := ⟨"F", "D", "sequential", "sequential", "", [], "", ""⟩) (by kernel_rfl) (List.cons_ne_nil _ _) (.inl ⟨rfl, by kernel_rfl⟩) (by decide) (by decide +kernel) (fun q => nomatch q) (fun _ q => ftt (by kernel_rfl) q) (fun _ _ => .done (by kernel_rfl)))) (by decide) (fun _ => rfl) (fun _ _ => rfl) (fun q _ => ttf (by kernel_rfl) q)) (by decide) (by kernel_rfl)
theorem bad_12 : Bad "SELECT F ASSIGN D . ODD" :=
  env_bad (ws := ["SELECT", "F", "ASSIGN", "D", ".", "ODD"]) (fb := false) (k := 1) (Ss := (⟨"F", "D", "sequential", "sequential", "", [], "", ""⟩ :: [])) (r5 := (wt ["ODD"])) (by decide +kernel) (by decide +kernel) (by decide +kernel) (show Files false 1 [] (wt ["SELECT", "F", "ASSIGN", "D", ".", "ODD"]) (⟨"F", "D", "sequential", "sequential", "", [], "", ""⟩ :: []) (wt ["ODD"]) from .step (k := 0) (Ss := []) (rem' := (wt ["ODD"])) (rb := false) (n := 1) (nm := "F") (rem := (wt ["SELECT", "F", "ASSIGN", "D", ".", "ODD"])) (rem1 := (wt ["ASSIGN", "D", ".", "ODD"])) (S := ⟨"F", "D", "sequential", "sequential", "", [], "", ""⟩) (rem2 := ((wt [".", "ODD"])).tail) (by kernel_rfl) (by kernel_rfl) (show Reads false 1 [] (spec0 "F") (wt ["ASSIGN", "D", ".", "ODD"]) ⟨"F", "D", "sequential", "sequential", "", [], "", ""⟩ ((wt [".", "ODD"])).tail from .step (cb := false) (x := "ASSIGN") (S' := ⟨"F", "D", "sequential", "sequential", "", [], "", ""⟩) (rem' := (wt [".", "ODD"])) (rem := (wt ["ASSIGN", "D", ".", "ODD"])) (S := ⟨"F", "", "sequential", "sequential", "", [], "", ""⟩) (by kernel_rfl) (List.cons_ne_nil _ _) (.inl ⟨rfl, by kernel_rfl⟩) (by decide) (by decide +kernel) (fun q => nomatch q) (fun _ q => ftt (by kernel_rfl) q) (fun _ _ => .done (by kernel_rfl))) (by decide) (fun q => ftt (by kernel_rfl) q) (fun _ q => ftt (by kernel_rfl) q) (fun _ _ => show Files false 0 ["F"] ((wt [".", "ODD"])).tail [] (wt ["ODD"]) from .done (by kernel_rfl))) (by decide) (by kernel_rfl)
noncomputable def badL : List Str := ["SELECT F ASSIGN D INDEXED .", "SELECT F ASSIGN D RECORD K .", "SELECT F ASSIGN D RELATIVE ACCESS RANDOM .", "SELECT F ASSIGN D ACCESS DYNAMIC .", "SELECT F SEQUENTIAL .", "SELECT F ASSIGN D ASSIGN E .", "SELECT F ASSIGN D . SELECT F ASSIGN E .", "SELECT F ASSIGN D", "SELECT F ASSIGN D INDEXED RECORD K ALTERNATE J ALTERNATE J .", "SELECT F ASSIGN D STATUS S STATUS T .", "SELECT F ASSIGN D RELATIVE KEY R .", "SELECT F ASSIGN D ALTERNATE J .", "SELECT F ASSIGN D . ODD"]
theorem bad_all : ∀ x ∈ badL, Bad x := by
  intro x m
  simp only [badL, List.mem_cons, List.not_mem_nil, or_false] at m
  rcases m with rfl | rfl | rfl | rfl | rfl | rfl | rfl | rfl | rfl | rfl | rfl | rfl | rfl
  · exact bad_0
  · exact bad_1
  · exact bad_2
  · exact bad_3
  · exact bad_4
  · exact bad_5
  · exact bad_6
  · exact bad_7
  · exact bad_8
  · exact bad_9
  · exact bad_10
  · exact bad_11
  · exact bad_12
section
variable {w : World} {A : Around} {E : Value → Shared → Prop} {s σ : Shared} {hz h0 : Heap} {L f : Addr} {D : List Addr} {ls : List (Str × Value)} {qn : Str} {sc : Scope} {cd : Value} {cl : List (Str × Addr)}
theorem nX_ {x : Str} {pos : Pos} {v : Value} {Q : Value → Shared → Prop} (B : Bd w D σ h0 L hz s.heap ls) (h : Q v s) (S : Loc sc x := by walk_at "LOC") (hv : look ls x = some v := by walk_at "LK") :
    wpAny (Mw w) A (eval (.Name x pos) (envX qn sc L f cd cl)) Q E s := nameX_L B.F hv h S.kind S.loc S.nd
theorem gX_ {x : Str} {pos : Pos} {v : Value} {Q : Value → Shared → Prop} (B : Bd w D σ h0 L hz s.heap ls) (e : nsIn (Kw w) mainGlobals x = some (some v)) (h : Q v s) (S : Glo sc x := by walk_at "LOC") :
    wpAny (Mw w) A (eval (.Name x pos) (envX qn sc L f cd cl)) Q E s := by
  obtain ⟨p, l, mg, mb, T⟩ := B.G.T
  exact nameX_K B.F B.G.X T e h S.kind S.glo S.nd
theorem bX_ {x : Str} {pos : Pos} {v : Value} {Q : Value → Shared → Prop} (B : Bd w D σ h0 L hz s.heap ls) (e : nsIn (Kw w) mainGlobals x = some none) (h : Q v s) (S : Glo sc x := by walk_at "LOC")
    (hv : bootBuiltins x = some v := by rfl) (hn : x ≠ "__name__" := by decide +kernel) : wpAny (Mw w) A (eval (.Name x pos) (envX qn sc L f cd cl)) Q E s := by
  obtain ⟨p, l, mg, mb, T⟩ := B.G.T
  exact nameX_B B.F B.G.X T e hv hn h S.kind S.glo S.nd
theorem cw1X {env : Env} {g : Addr} {first : List Value} {pos : Pos} {e1 : PySem.Expr} {Q : Value → Shared → Prop} (G : G1 w hz) (hk : keepIn (Kw w) (.ref g) = true)
    (h : wpAny (Mw w) A (eval e1 env) (fun v s₁ => (∃ ls', Fr hz L s₁.heap (look ls')) ∧ wpAny (Mw w) A (call (.ref g) (first ++ [v])) Q E s₁) E s)
    (he : starEach [e1] env = [(false, eval e1 env)] := by rfl) :
    wpAny (Mw w) A (callWith pos (.ref g) first (backTo pos (starEach [e1] env)) []) Q E s :=
  callWith_K G.X hk (args_cons (wpAny_mono h (fun v s₁ q => args_nil ⟨let ⟨_, F⟩ := q.1; G.X.keeps F.keep, q.2⟩) fun _ _ x => x) he) he
theorem cw2X {env : Env} {g : Addr} {first : List Value} {pos : Pos} {e1 e2 : PySem.Expr} {Q : Value → Shared → Prop} (G : G1 w hz) (hk : keepIn (Kw w) (.ref g) = true)
    (h : wpAny (Mw w) A (eval e1 env) (fun v s₁ => wpAny (Mw w) A (eval e2 env) (fun u s₂ => (∃ ls', Fr hz L s₂.heap (look ls')) ∧ wpAny (Mw w) A (call (.ref g) (first ++ [v, u])) Q E s₂) E s₁) E s)
    (he : starEach [e1, e2] env = [(false, eval e1 env), (false, eval e2 env)] := by rfl)
    (he2 : starEach [e2] env = [(false, eval e2 env)] := by rfl) :
    wpAny (Mw w) A (callWith pos (.ref g) first (backTo pos (starEach [e1, e2] env)) []) Q E s := by
  have h1 : starEach [e1, e2] env = (false, eval e1 env) :: starEach [e2] env := by rw [he, he2]
  exact callWith_K G.X hk (args_cons (wpAny_mono h (fun v s₁ q => args_cons (wpAny_mono q (fun u s₂ q => args_nil ⟨let ⟨_, F⟩ := q.1; G.X.keeps F.keep, q.2⟩) fun _ _ x => x) he2) fun _ _ x => x) h1) h1 (by rw [he2]; rfl)
theorem f1X_ {x : Str} {xp pos : Pos} {g : Addr} {e1 : PySem.Expr} {Q : Value → Shared → Prop} (B : Bd w D σ h0 L hz s.heap ls) (e : nsIn (Kw w) mainGlobals x = some (some (.ref g))) (hk : keepIn (Kw w) (.ref g) = true)
    (h : wpAny (Mw w) A (eval e1 (envX qn sc L f cd cl)) (fun v s₁ => (∃ ls', Fr hz L s₁.heap (look ls')) ∧ wpAny (Mw w) A (call (.ref g) [v]) Q E s₁) E s) (S : Glo sc x := by walk_at "LOC")
    (he : starEach [e1] (envX qn sc L f cd cl) = [(false, eval e1 (envX qn sc L f cd cl))] := by rfl)
    (hc : eval (.Call (.Name x xp) [e1] [] pos) (envX qn sc L f cd cl) = (do callWith pos (← eval (.Name x xp) (envX qn sc L f cd cl)) [] (backTo pos (starEach [e1] (envX qn sc L f cd cl))) (backToKw pos (keywordEach [] (envX qn sc L f cd cl)))) := by rfl) :
    wpAny (Mw w) A (eval (.Call (.Name x xp) [e1] [] pos) (envX qn sc L f cd cl)) Q E s :=
  Call_ (gX_ B e (cw1X (first := []) B.G hk h he) S) hc
theorem f2X_ {x : Str} {xp pos : Pos} {g : Addr} {e1 e2 : PySem.Expr} {Q : Value → Shared → Prop} (B : Bd w D σ h0 L hz s.heap ls) (e : nsIn (Kw w) mainGlobals x = some (some (.ref g))) (hk : keepIn (Kw w) (.ref g) = true)
    (h : wpAny (Mw w) A (eval e1 (envX qn sc L f cd cl)) (fun v s₁ => wpAny (Mw w) A (eval e2 (envX qn sc L f cd cl)) (fun u s₂ => (∃ ls', Fr hz L s₂.heap (look ls')) ∧ wpAny (Mw w) A (call (.ref g) [v, u]) Q E s₂) E s₁) E s) (S : Glo sc x := by walk_at "LOC")
    (he : starEach [e1, e2] (envX qn sc L f cd cl) = [(false, eval e1 (envX qn sc L f cd cl)), (false, eval e2 (envX qn sc L f cd cl))] := by rfl) (he2 : starEach [e2] (envX qn sc L f cd cl) = [(false, eval e2 (envX qn sc L f cd cl))] := by rfl)
    (hc : eval (.Call (.Name x xp) [e1, e2] [] pos) (envX qn sc L f cd cl) = (do callWith pos (← eval (.Name x xp) (envX qn sc L f cd cl)) [] (backTo pos (starEach [e1, e2] (envX qn sc L f cd cl))) (backToKw pos (keywordEach [] (envX qn sc L f cd cl)))) := by rfl) :
    wpAny (Mw w) A (eval (.Call (.Name x xp) [e1, e2] [] pos) (envX qn sc L f cd cl)) Q E s :=
  Call_ (gX_ B e (cw2X (first := []) B.G hk h he he2) S) hc
theorem sX_ {x : Str} {v : Value} {Q : Unit → Shared → Prop} (B : Bd w D σ h0 L hz s.heap ls)
    (h : ∀ h' tk', Bd w D σ h0 L hz h' ((x, v) :: ls) → Ext [L] s.heap h' → Q () (St σ h' tk')) (S₀ : Same σ s := by walk_at "SM") (S : Loc sc x := by walk_at "LOC") :
    wpAny (Mw w) A (storeName (envX qn sc L f cd cl) x v) Q E s := by
  refine wpAny_storeName_local S.loc B.F.ns (fun h' hn hs => ?_) (by show (sc.kind == .class || (sc.kind == .module && L != mainGlobals)) = false; rw [S.kind]; rfl)
  have x' : Ext [L] s.heap h' := fun b o e n => (hs.2 b fun q => n (q ▸ .head _)).trans e
  have F' := B.F.set hn hs
  rw [look_put] at F'
  exact S₀.st h' _ ▸ h h' _ (B.step F' x' fun d m => .inr (one_mem m (Nat.le_refl _))) x'
theorem asX {x : Str} {px pos : Pos} {value : PySem.Expr} {Q : Flow → Shared → Prop} (h : wpAny (Mw w) A (eval value (envX qn sc L f cd cl)) (fun v s₁ => wpAny (Mw w) A (storeName (envX qn sc L f cd cl) x v) (fun _ => Q .next) E s₁) E s)
    (hs : swapsWith value (some (.Name x px)) pos.line (envX qn sc L f cd cl) = pure false := by rfl) : wpAny (Mw w) A (exec (.Assign [.Name x px] value pos) (envX qn sc L f cd cl)) Q E s := wpAny_Assign_Name h hs
theorem drawX_ {tp : Addr} {k : Nat} {xp ap cp pos : Pos} {ck : Nat} {m : Int} {Q : Value → Shared → Prop} (B : Bd w D σ h0 L hz s.heap ls) (T : Tape s.heap tp k) (hk : k ≤ 100000)
    (h : ∀ i t h' tk', Bd w D σ h0 L hz h' ls → Ext [tp] s.heap h' → Tape h' tp (k + 1) → 0 ≤ i → i < m → Q (.int i t) (St σ h' tk'))
    (hd : tp ∈ D ∨ L < tp := by walk_at "DD") (ok : Ok A 2 := by walk_at "OK") (S : Same σ s := by walk_at "SM") (hm : 0 < m := by decide) (S1 : Glo sc "_law_draw" := by walk_at "LOC") (S2 : Loc sc "tape" := by walk_at "LOC") (hx : look ls "tape" = some (.ref tp) := by walk_at "LK")
    (he : starEach [.Name "tape" ap, .Constant (.int m) ck cp] (envX qn sc L f cd cl) = [(false, eval (.Name "tape" ap) (envX qn sc L f cd cl)), (false, eval (.Constant (.int m) ck cp) (envX qn sc L f cd cl))] := by rfl) (he2 : starEach [.Constant (.int m) ck cp] (envX qn sc L f cd cl) = [(false, eval (.Constant (.int m) ck cp) (envX qn sc L f cd cl))] := by rfl)
    (hc : eval (.Call (.Name "_law_draw" xp) [.Name "tape" ap, .Constant (.int m) ck cp] [] pos) (envX qn sc L f cd cl) = (do callWith pos (← eval (.Name "_law_draw" xp) (envX qn sc L f cd cl)) [] (backTo pos (starEach [.Name "tape" ap, .Constant (.int m) ck cp] (envX qn sc L f cd cl))) (backToKw pos (keywordEach [] (envX qn sc L f cd cl)))) := by rfl) :
    wpAny (Mw w) A (eval (.Call (.Name "_law_draw" xp) [.Name "tape" ap, .Constant (.int m) ck cp] [] pos) (envX qn sc L f cd cl)) Q E s := by
  have hs : ∀ x ∈ [tp], x ∈ D ∨ L < x := fun x m => one_mem m (hd)
  refine f2X_ B (gl__law_draw w) (kp__law_draw w) (nX_ B (wpAny_Constant_int ⟨⟨_, B.F⟩, ?_⟩) S2 hx) S1 he he2 hc
  refine Bd.use (s := { s with toks := s.toks + 1 }) B (law_draw_c B.G1 T hk hm) (fun v h' tk' B' x' p => ?_) ⟨by rw [S.eq]⟩ ok hs
  obtain ⟨⟨i, t, rfl, h1, h2⟩, T'⟩ := p
  exact h i t h' tk' B' x' T' h1 h2
theorem pick2X_ {tp : Addr} {k : Nat} {a b : Str} {p1 p2 p4 p5 xp ap cp pos : Pos} {ck : Nat} {Q : Value → Shared → Prop} (B : Bd w D σ h0 L hz s.heap ls) (T : Tape s.heap tp k) (hk : k ≤ 100000)
    (h : ∀ (c : Bool) t h' tk', Bd w D σ h0 L hz h' ls → Ext [tp] s.heap h' → Tape h' tp (k + 1) → Q (.str (if c then b else a) t) (St σ h' tk'))
    (hd : tp ∈ D ∨ L < tp := by walk_at "DD") (ok : Ok A 2 := by walk_at "OK") (S : Same σ s := by walk_at "SM") (S1 : Glo sc "_law_draw" := by walk_at "LOC") (S2 : Loc sc "tape" := by walk_at "LOC") (hx : look ls "tape" = some (.ref tp) := by walk_at "LK") :
    wpAny (Mw w) A (eval (.Subscript (.Tuple [.Constant (.str a) 0 p1, .Constant (.str b) 0 p2] 0 p4) (.Call (.Name "_law_draw" xp) [.Name "tape" ap, .Constant (.int 2) ck cp] [] pos) p5) (envX qn sc L f cd cl)) Q E s := by
  refine Subscript_ (wpAny_Tuple (args_cons (wpAny_Constant_str (args_cons (wpAny_Constant_str (args_nil ⟨szl rfl, ?_⟩))))))
  generalize ho : ({ cls := .type "tuple", data := .seq [Value.str a s.toks, .str b (s.toks + 1)].toArray } : Obj) = o
  have T1 : IsTup (s.heap.push o) s.heap.objs.size [Value.str a s.toks, .str b (s.toks + 1)].toArray := ⟨o, Heap.get?_push_size _ (by rw [← ho]; rfl), by rw [← ho], 0, by rw [← ho]⟩
  have B1 := B.push o
  have Tp := T.keeps (Ext.push s.heap o)
  obtain ⟨its, hli⟩ := Tp.list
  refine drawX_ (s := { s with heap := s.heap.push o, toks := s.toks + 1 + 1 }) B1 Tp hk (fun i t h' tk' B' x' T' h1 h2 => ?_) hd ok ⟨by rw [S.eq]⟩ (by decide) S1 S2 hx
  have T2 := tup_extI T1 x' hli
  obtain ⟨n, rfl⟩ := Int.eq_ofNat_of_zero_le h1
  have hn : n < 2 := by omega
  match n, hn with
  | 0, _ => exact tupitem_ T2 (by decide) (by simp) (by simp) rfl (h false _ h' tk' B' (push_back x') T')
  | 1, _ => exact tupitem_ T2 (by decide) (by simp) (by simp) rfl (h true _ h' tk' B' (push_back x') T')
theorem flipX_ {tp : Addr} {k : Nat} {xp ap cp pos ep cpos : Pos} {ck : Nat} {n : Int} {whole : Sem Value} {Q : Bool → Shared → Prop} (B : Bd w D σ h0 L hz s.heap ls) (T : Tape s.heap tp k) (hk : k ≤ 100000)
    (h : ∀ b h' tk', Bd w D σ h0 L hz h' ls → Ext [tp] s.heap h' → Tape h' tp (k + 1) → Q b (St σ h' tk'))
    (hd : tp ∈ D ∨ L < tp := by walk_at "DD") (ok : Ok A 2 := by walk_at "OK") (S : Same σ s := by walk_at "SM") (S1 : Glo sc "_law_draw" := by walk_at "LOC") (S2 : Loc sc "tape" := by walk_at "LOC") (hx : look ls "tape" = some (.ref tp) := by walk_at "LK") :
    wpAny (Mw w) A (isTrue (.Compare (.Call (.Name "_law_draw" xp) [.Name "tape" ap, .Constant (.int 2) ck cp] [] pos) [.Eq] [.Constant (.int n) 0 ep] cpos) (envX qn sc L f cd cl) whole) Q E s :=
  wpAny_isTrue_Compare1 (drawX_ B T hk (fun i t h' tk' B' x' T' _ _ => wpAny_Constant_int (PyProof.Rows.eq_int (wpAny_truthy_bool (h _ h' _ B' x' T')))) hd ok S (by decide) S1 S2 hx)
end
/-- two tuples with equal items -/
theorem eq_tups {A : Around} {s : Shared} {a b : Addr} {xs ys : List Value} (ha : IsTup s.heap a xs.toArray) (hb : IsTup s.heap b ys.toArray) (hl : xs.length = ys.length) (hu : A.units < cLine)
    (he : ∀ (j : Nat) (x y : Value), xs[j]? = some x → ys[j]? = some y → SeqAt.EqAt A.in1 s x y true) : SeqAt.EqAt A s (.ref a) (.ref b) true := by
  by_cases h : a = b
  · rw [h]; exact SeqAt.EqAt.same _
  · have := SeqAt.RcAt.tuples (e := fun _ => true) ha hb hu (fun j h1 h2 => he j _ _ (by simp at h1; simp [h1]) (by simp at h2; simp [h2]))
    have e : ((List.range (min xs.toArray.size ys.toArray.size)).all (fun _ => true) && xs.toArray.size == ys.toArray.size) = true := by simp [hl]
    rw [e] at this
    exact SeqAt.EqAt.of_refs h this
theorem eq_strs {A : Around} {s : Shared} (x : Str) (t u : Tok) : SeqAt.EqAt A s (.str x t) (.str x u) true := by
  have := SeqAt.EqAt.str_str (A := A) (s := s) x t x u
  rwa [beq_self_eq_true] at this
theorem eq_pairs {A : Around} {s : Shared} {vs ws : List Value} {as : List (Str × Bool)} (P : Pairs s.heap vs as) (Q : Pairs s.heap ws as) (hu : A.units < cLine) : ∀ (j : Nat) (x y : Value), vs[j]? = some x → ws[j]? = some y → SeqAt.EqAt A s x y true := by
  induction P generalizing ws with
  | nil => intro j x y hx; cases hx
  | cons p _ ih =>
    cases Q with
    | cons q Q =>
      intro j x y hx hy
      cases j with
      | zero =>
        cases hx; cases hy
        obtain ⟨a, t, rfl, T⟩ := p
        obtain ⟨b, u, rfl, U⟩ := q
        refine eq_tups (xs := [_, _]) (ys := [_, _]) T U rfl hu fun j x y hx hy => ?_
        match j, hx, hy with
        | 0, hx, hy => cases hx; cases hy; exact eq_strs _ _ _
        | 1, hx, hy => cases hx; cases hy; exact SeqAt.EqAt.same _
        | n + 2, hx, _ => cases hx
      | succ j => exact ih Q j x y hx hy
theorem eq_told {A : Around} {s : Shared} {a b : Addr} {S : Spec} (T : Told s.heap a S) (U : Told s.heap b S) (hu : A.units + 10 < cLine) : SeqAt.EqAt A s (.ref a) (.ref b) true := by
  obtain ⟨t1, t2, t3, t4, t5, t6, t7, al, rc, g, ⟨vs, ga, pa⟩, gr⟩ := T
  obtain ⟨u1, u2, u3, u4, u5, u6, u7, bl, rd, g', ⟨ws, gb, pb⟩, gs⟩ := U
  refine eq_tups g g' rfl (by omega) fun j x y hx hy => ?_
  match j, hx, hy with
  | 0, hx, hy => cases hx; cases hy; exact eq_strs _ _ _
  | 1, hx, hy => cases hx; cases hy; exact eq_strs _ _ _
  | 2, hx, hy => cases hx; cases hy; exact eq_strs _ _ _
  | 3, hx, hy => cases hx; cases hy; exact eq_strs _ _ _
  | 4, hx, hy => cases hx; cases hy; exact eq_strs _ _ _
  | 5, hx, hy => cases hx; cases hy; exact eq_tups ga gb (pa.length.trans pb.length.symm) (by rw [units_in1]; omega) (eq_pairs pa pb (by rw [units_in1, units_in1]; omega))
  | 6, hx, hy => cases hx; cases hy; exact eq_strs _ _ _
  | 7, hx, hy => cases hx; cases hy; exact eq_strs _ _ _
  | 8, hx, hy => cases hx; cases hy; exact SeqAt.EqAt.same _
  | 9, hx, hy => cases hx; cases hy; exact eq_tups (xs := []) (ys := []) gr gs rfl (by rw [units_in1]; omega) fun j x y hx _ => by cases hx
  | n + 10, hx, _ => cases hx
theorem ltA {a b : Nat} (h : a < b) : a < b := h
/-- the tuples stay -/
noncomputable def TE (h h' : Heap) : Prop := ∀ b o items n, h.get? b = some o → o.cls = .type "tuple" → o.data = .seq items n → h'.get? b = some o
/-- all stays but L -/
noncomputable def XE (L : Addr) (h h' : Heap) : Prop := ∀ b o, b ≠ L → h.get? b = some o → h'.get? b = some o
theorem Same.trans {s s' s'' : Shared} (x : Same s s') (y : Same s' s'') : Same s s'' := ⟨by rw [y.eq, x.eq]⟩
section
variable {w : World} {A : Around} {E : Value → Shared → Prop} {env : Env}
/-- what one turn of a comprehension does, with L allowed to change -/
structure Turns (w : World) (A : Around) (env : Env) (scope : Scope) (cl : List (Str × Addr)) (x : Str) (ifs : List PySem.Expr) (elt : PySem.Expr) (fp wr : List Addr) (n : Nat) (P : Nat → Value → Prop) (Sq : Nat → Heap → Prop) (L : Addr) (J : Nat → Array Value → Heap → Prop) (s₂ : Shared) : Prop where
  Llt : L < s₂.heap.objs.size
  Lfp : L ∉ fp
  not : ∀ i h b o, Sq i h → b ∈ wr → h.get? b = some o → o.cls ≠ .type "tuple"
  stay : ∀ i ys h h', J i ys h → TE h h' → (∀ b o, b < s₂.heap.objs.size → b ∉ wr → h.get? b = some o → h'.get? b = some o) → J i ys h'
  start : J 0 #[] s₂.heap
  turn : ∀ i C v ys s₃ m₃ E', i < n → ys.size ≤ i → P i v → J i ys s₃.heap → Same s₂ s₃ → s₂.heap.objs.size ≤ C → s₃.heap.Ns C m₃ → m₃ x = some v → (∀ b o, b ∉ wr → b ≠ L → s₂.heap.get? b = some o → s₃.heap.get? b = some o) →
    wpAny (Mw w) A (forIn ifs true fun c r => if r = true then do let ok ← isTrue c (compEnvC scope cl C env) (eval c (compEnvC scope cl C env)); pure (ForInStep.yield ok) else pure (ForInStep.yield r))
      (fun ok s₄ => if ok = true then wpAny (Mw w) A (eval elt (compEnvC scope cl C env)) (fun y s₅ => Same s₃ s₅ ∧ XE L s₃.heap s₅.heap ∧ J (i + 1) (ys.push y) s₅.heap) E' s₄ else Same s₃ s₄ ∧ XE L s₃.heap s₄.heap ∧ J (i + 1) ys s₄.heap) E' s₃
theorem comp_turns {s : Shared} {elt iter : PySem.Expr} {x : Str} {px : Pos} {ifs : List PySem.Expr} {scope : Scope} {cl : List (Str × Addr)} {pos : Pos} {Q : Value → Shared → Prop}
    (hclos : closureFor scope env = pure cl) (hcell : ∀ y ∈ scope.names, y.2 ≠ .cell) (hkind : scope.kind = .function)
    (hnames : ∀ y ∈ scope.names, y.2 = .local → scope.names.lookup y.1 = some .local) (hx : scope.names.lookup x = some .local)
    (h : wpAny (Mw w) A (eval iter env) (fun xv s₁ => wpAny (Mw w) A (pyIter xv) (fun it s₂ => ∃ I fp wr n P Sq L J, it = .ref I ∧ Walks PR w A I fp wr n P Sq ∧ n ≤ sizeLine ∧ Sq 0 s₂.heap ∧ (∀ b ∈ fp, b < s₂.heap.objs.size) ∧
      Turns w A env scope cl x ifs elt fp wr n P Sq L J s₂ ∧
      (∀ D h' tk ys, s₂.heap.get? D = none → h'.PlainList D ys → J n ys h' → (∀ b o, b ∉ wr → b ≠ L → s₂.heap.get? b = some o → h'.get? b = some o) → Q (.ref D) (St s₂ h' tk))) E s₁) E s)
    (hs : ∀ x, foldedSetIterable iter env x = pure x := by intro _; rfl) :
    wpAny (Mw w) A (eval (.ListComp elt [⟨.Name x px, iter, ifs, 0⟩] scope pos) env) Q E s := by
  rw [eval_ListComp]
  refine wpAny_comprehension_free (use := none) rfl hs hclos hkind hnames (wpAny_mono h (fun xv s₁ h₁ => wpAny_mono h₁ (fun it s₂ h₂ => ?_) fun _ _ e => e) fun _ _ e => e)
  obtain ⟨I, fp, wr, n, P, Sq, L, J, rfl, W, hsz, hst, hfp, T, hQ⟩ := h₂
  obtain ⟨N, hN⟩ : ∃ N, s₂.heap.objs.size = N := ⟨_, rfl⟩
  refine wpAny_newObj_type (wpAny_newFunctionEnv hcell (by intro y hy; cases hy) (fun h₁ ns₁ sb₁ => ?_) hkind)
  have hpz : (s₂.heap.push { cls := .type "list", dict := none, data := .seq ([] : List Value).toArray }).objs.size = N + 1 := by rw [Heap.size_push, hN]
  dsimp only at ns₁ sb₁ ⊢
  generalize hH2 : s₂.heap.push { cls := .type "list", dict := none, data := .seq ([] : List Value).toArray } = H2 at *
  have hC : H2.objs.size = N + 1 := hpz
  generalize H2.objs.size = C at *
  have lt2 : ∀ {b o}, s₂.heap.get? b = some o → b < N := fun e => hN ▸ Heap.lt_size e
  have fr2 : ∀ {b}, N ≤ b → s₂.heap.get? b = none := fun {b} hb => by
    cases q : s₂.heap.get? b with
    | none => rfl
    | some o => exact absurd (lt2 q) (Nat.not_lt.mpr hb)
  have old : ∀ b o, s₂.heap.get? b = some o → h₁.get? b = some o := fun b o e => by
    have := ltA (lt2 e)
    exact sb₁.extBut b o (Nat.ne_of_lt (by omega)) (Heap.get?_push_of_some _ (hH2 ▸ Heap.get?_push_of_some _ e))
  have acc₁ : h₁.PlainList N #[] := ⟨_, sb₁.extBut _ _ (Nat.ne_of_lt (by omega)) (Heap.get?_push_of_some _ (by rw [← hH2, ← hN]; exact Heap.get?_push_size _ rfl))⟩
  have hNf : ∀ b ∈ fp, b ≠ N ∧ b ≠ C := fun b m => by have := ltA (hfp b m); rw [hN] at this; exact ⟨Nat.ne_of_lt (by omega), Nat.ne_of_lt (by omega)⟩
  have hwN : ∀ b ∈ wr, b ≠ N ∧ b ≠ C := fun b m => hNf b (W.sub b m)
  have hLw : L ∉ wr := fun m => T.Lfp (W.sub _ m)
  have hLN := ltA (show L < N from hN ▸ T.Llt)
  have J₁ : J 0 #[] h₁ := T.stay _ _ _ _ T.start (fun b o _ _ e _ _ => old b o e) fun b o _ _ e => old b o e
  have st₁ : Sq 0 h₁ := W.frame _ _ _ hst fun b _ o e => old b o e
  have loop : codeAny (Mw w) A (.compLoop (.ListComp elt [⟨.Name x px, iter, ifs, 0⟩] scope pos) 0 (.ref I) (.ref N) (compEnvC scope cl C env)) (compPost (Mw w) A E none Q (.ref N) C) { s₂ with heap := h₁, toks := s₂.toks + ([] : List (Str × Value)).length } := by
    refine codeAny_compLoop_tests (fun k s' => ∃ i ys m, k = n + 1 - i ∧ i ≤ n ∧ ys.size ≤ i ∧ Same s₂ s' ∧ Sq i s'.heap ∧ s'.heap.PlainList N ys ∧ s'.heap.Ns C m ∧ J i ys s'.heap ∧ ∀ b o, b ∉ wr → b ≠ L → s₂.heap.get? b = some o → s'.heap.get? b = some o) ?_ (n + 1)
      ⟨0, #[], _, rfl, Nat.zero_le _, Nat.le_refl _, ⟨rfl⟩, st₁, acc₁, ns₁, J₁, fun b o _ _ e => old b o e⟩
    rintro k s' ⟨i, ys, m, rfl, hi, hys, S', st', acc', ns', J', k'⟩
    by_cases hlt : i < n
    · refine W.item i _ _ _ hlt st' fun v h₂ tk₂ pv st₂ k₂ => ?_
      have notw : ∀ b o, s'.heap.get? b = some o → o.cls = .type "tuple" → b ∉ wr := fun b o e c m => T.not i _ b o st' m e c
      have J₂ : J i ys h₂ := T.stay _ _ _ _ J' (fun b o _ _ e c _ => k₂ b o (notw b o e c) e) fun b o _ nw e => k₂ b o nw e
      have ns₂ : h₂.Ns C m := ns'.at' fun o e => k₂ _ o (fun m => (hwN _ m).2 rfl) e
      have acc₂ : h₂.PlainList N ys := acc'.at fun o e => k₂ _ o (fun m => (hwN _ m).1 rfl) e
      refine wpAny_assign_Name (wpAny_storeName_local (lookup_relabel_local hx) ns₂ (fun h₃ ns₃ sb₃ => ?_) (by simp [compEnvC, relabel, hkind]))
      have k₃ : ∀ b o, b ≠ C → h₂.get? b = some o → h₃.get? b = some o := fun b o n e => sb₃.extBut b o n e
      have isD : isDict h₂ C := by obtain ⟨o, es, ep, e, d, _⟩ := ns₂; exact ⟨o, es, ep, e, d⟩
      have st₃ : Sq (i + 1) h₃ := W.frame _ _ _ st₂ fun b hb o e => k₃ b o (hNf b hb).2 e
      have J₃ : J i ys h₃ := T.stay _ _ _ _ J₂ (fun b o items nn e c d => by
        by_cases q : b = C
        · subst q
          obtain ⟨o', es, ep, e', d'⟩ := isD
          rw [e] at e'; cases e'
          rw [d] at d'; cases d'
        · exact k₃ b o q e) fun b o hb _ e => k₃ b o (Nat.ne_of_lt (by have := ltA hb; omega)) e
      have acc₃ : h₃.PlainList N ys := acc₂.at fun o e => k₃ _ o (Nat.ne_of_lt (by omega)) e
      have up₃ : ∀ b o, b ∉ wr → b ≠ L → s₂.heap.get? b = some o → h₃.get? b = some o := fun b o nw nl e => k₃ b o (Nat.ne_of_lt (by have := ltA (lt2 e); omega)) (k₂ b o nw (k' b o nw nl e))
      have S₃ : Same s₂ { s' with heap := h₃, toks := tk₂ + 1 } := ⟨by rw [S'.eq]⟩
      refine wpAny_mono (T.turn i C v ys { s' with heap := h₃, toks := tk₂ + 1 } _ _ hlt hys pv J₃ S₃ (by omega) ns₃ (by simp) up₃) (fun ok s₄ q => ?_) fun _ _ x => x
      have nsX : ∀ {m : Str → Option Value} {h₅ : Heap}, h₃.Ns C m → XE L h₃ h₅ → h₅.Ns C m := fun a x => a.at' fun o e => x C o (Nat.ne_of_gt (by omega)) e
      have stX : ∀ {h₅ : Heap}, XE L h₃ h₅ → Sq (i + 1) h₅ := fun x => W.frame _ _ _ st₃ fun b hb o e => x b o (fun q => T.Lfp (q ▸ hb)) e
      cases ok with
      | false =>
        simp only [Bool.false_eq_true, if_false] at q ⊢
        obtain ⟨q1, q2, q3⟩ := q
        exact ⟨n + 1 - (i + 1), by omega, i + 1, ys, _, rfl, hlt, by omega, S₃.trans q1, stX q2, acc₃.at fun o e => q2 N o (Nat.ne_of_gt (by omega)) e, nsX ns₃ q2, q3, fun b o nw nl e => q2 b o nl (up₃ b o nw nl e)⟩
      | true =>
        simp only [if_true] at q ⊢
        refine wpAny_mono q (fun y s₅ q => ?_) fun _ _ x => x
        obtain ⟨q1, q2, q3⟩ := q
        refine wpAny_list_append_plain (hsz := by omega) (acc₃.at fun o e => q2 N o (Nat.ne_of_gt (by omega)) e) fun h₆ acc₆ sb₆ => ?_
        have k₆ : ∀ b o, b ≠ N → s₅.heap.get? b = some o → h₆.get? b = some o := fun b o n e => sb₆.extBut b o n e
        have accL : s₅.heap.PlainList N ys := acc₃.at fun o e => q2 N o (Nat.ne_of_gt (by omega)) e
        refine ⟨n + 1 - (i + 1), by omega, i + 1, ys.push y, _, rfl, hlt, by simp; omega, ⟨by rw [(S₃.trans q1).eq]⟩, W.frame _ _ _ (stX q2) fun b hb o e => k₆ b o (hNf b hb).1 e, acc₆, (nsX ns₃ q2).at' fun o e => k₆ _ o (Nat.ne_of_gt (by omega)) e,
          T.stay _ _ _ _ q3 (fun b o items nn e c d => k₆ b o (fun r => by
            subst r
            obtain ⟨_, e'⟩ := accL
            rw [e] at e'; cases e'
            exact absurd (Value.type.inj c) (by decide)) e) fun b o hb _ e => k₆ b o (Nat.ne_of_lt (by have := ltA hb; omega)) e, fun b o nw nl e => k₆ b o (Nat.ne_of_lt (by have := ltA (lt2 e); omega)) (q2 b o nl (up₃ b o nw nl e))⟩
    · have hin : i = n := by omega
      subst hin
      refine W.done _ _ _ st' fun h₂ tk₂ k₂ => ?_
      have notw : ∀ b o, s'.heap.get? b = some o → o.cls = .type "tuple" → b ∉ wr := fun b o e c m => T.not i _ b o st' m e c
      have J₂ : J i ys h₂ := T.stay _ _ _ _ J' (fun b o _ _ e c _ => k₂ b o (notw b o e c) e) fun b o _ nw e => k₂ b o nw e
      have ns₂ : h₂.Ns C m := ns'.at' fun o e => k₂ _ o (fun m => (hwN _ m).2 rfl) e
      have acc₂ : h₂.PlainList N ys := acc'.at fun o e => k₂ _ o (fun m => (hwN _ m).1 rfl) e
      refine ⟨m, ns₂, fun h₃ sb₃ => ?_⟩
      have k₃ : ∀ b o, b ≠ C → h₂.get? b = some o → h₃.get? b = some o := fun b o n e => sb₃.extBut b o n e
      have isD : isDict h₂ C := by obtain ⟨o, es, ep, e, d, _⟩ := ns₂; exact ⟨o, es, ep, e, d⟩
      have J₃ : J i ys h₃ := T.stay _ _ _ _ J₂ (fun b o items nn e c d => by
        by_cases q : b = C
        · subst q
          obtain ⟨o', es, ep, e', d'⟩ := isD
          rw [e] at e'; cases e'
          rw [d] at d'; cases d'
        · exact k₃ b o q e) fun b o hb _ e => k₃ b o (Nat.ne_of_lt (by have := ltA hb; omega)) e
      have := hQ N h₃ tk₂ ys (fr2 (Nat.le_refl _)) (acc₂.at fun o e => k₃ _ o (Nat.ne_of_lt (by omega)) e) J₃ fun b o nw nl e => k₃ b o (Nat.ne_of_lt (by have := ltA (lt2 e); omega)) (k₂ b o nw (k' b o nw nl e))
      rw [S'.eq]
      exact this
  rw [hN]
  exact codeAny_compStart_list loop (W.self 0 _ _ _ st₁ loop)
end
noncomputable abbrev eW (L : Addr) : Env := envX "law" s_408 L 408 (.ref 407) [("found", L + 1)]
inductive ToldL (h : Heap) : List Value → List Spec → Prop
  | nil : ToldL h [] []
  | cons {a S vs Ss} : Told h a S → ToldL h vs Ss → ToldL h (.ref a :: vs) (S :: Ss)
theorem tup_te {h h' : Heap} {a items} (T : IsTup h a items) (x : TE h h') : IsTup h' a items := let ⟨o, e, c, n, d⟩ := T; ⟨o, x a o items n e c d, c, n, d⟩
theorem Pairs.te {h h' : Heap} {vs as} (P : Pairs h vs as) (x : TE h h') : Pairs h' vs as := by
  induction P with
  | nil => exact .nil
  | cons p _ ih =>
    obtain ⟨a, t, rfl, T⟩ := p
    exact .cons ⟨a, t, rfl, tup_te T x⟩ ih
theorem Told.te {h h' : Heap} {a S} (T : Told h a S) (x : TE h h') : Told h' a S := by
  obtain ⟨t1, t2, t3, t4, t5, t6, t7, al, rc, g, ⟨vs, ga, pa⟩, gr⟩ := T
  exact ⟨t1, t2, t3, t4, t5, t6, t7, al, rc, tup_te g x, ⟨vs, tup_te ga x, pa.te x⟩, tup_te gr x⟩
theorem ToldL.te {h h' : Heap} {vs Ss} (T : ToldL h vs Ss) (x : TE h h') : ToldL h' vs Ss := by
  induction T with
  | nil => exact .nil
  | cons t _ ih => exact .cons (t.te x) ih
theorem ToldL.snoc {h : Heap} {vs Ss a S} (T : ToldL h vs Ss) (t : Told h a S) : ToldL h (vs ++ [.ref a]) (Ss ++ [S]) := by
  induction T with
  | nil => exact .cons t .nil
  | cons t' _ ih => exact .cons t' ih
theorem ToldL.length {h : Heap} {vs Ss} (T : ToldL h vs Ss) : vs.length = Ss.length := by
  induction T with
  | nil => rfl
  | cons _ _ ih => simp [ih]
theorem ToldL.at {h : Heap} {vs Ss} (T : ToldL h vs Ss) : ∀ (i : Nat) (v : Value) (S : Spec), vs[i]? = some v → Ss[i]? = some S → ∃ a, v = .ref a ∧ Told h a S := by
  induction T with
  | nil => intro i v S e; cases e
  | cons t _ ih =>
    intro i v S e e'
    cases i with
    | zero => cases e; cases e'; exact ⟨_, rfl, t⟩
    | succ i => exact ih i v S e e'
theorem Ext.te {h h' : Heap} (x : Ext [] h h') : TE h h' := fun b o _ _ e _ _ => x b o e fun m => nomatch m
theorem found_at {h : Heap} {fd : Addr} {kvs Ss} (F : FoundIs h fd kvs Ss) : ∀ (i : Nat) (k : Str) (v : Value), kvs[i]? = some (k, v) → ∃ sp sd S, v = .ref sp ∧ SpecAt h sp sd S ∧ Ss[i]? = some S ∧ k = S.name := by
  induction F with
  | nil => intro i k v e; cases e
  | cons p _ _ ih =>
    intro i k v e
    cases i with
    | zero => cases e; exact ⟨_, _, _, rfl, p, rfl, rfl⟩
    | succ i => exact ih i k v e
theorem valueAt_nth : ∀ {kvs : List (Str × Value)}, (kvs.map (·.1)).Nodup → ∀ (i : Nat) (k : Str) (v : Value), kvs[i]? = some (k, v) → valueAt kvs k = some v
  | [], _, i, k, v, e => by cases e
  | (k', v') :: r, hn, i, k, v, e => by
    rw [List.map_cons, List.nodup_cons] at hn
    cases i with
    | zero => cases e; simp [valueAt]
    | succ i =>
      have e : r[i]? = some (k, v) := e
      have hk : k ≠ k' := fun q => hn.1 (q ▸ List.mem_map_of_mem (f := (·.1)) (List.mem_of_getElem? e))
      have := valueAt_nth hn.2 i k v e
      unfold valueAt at this ⊢
      rw [List.find?_cons_of_neg (by simpa using Ne.symm hk)]
      exact this
theorem take_snoc {α} {l : List α} {i : Nat} {x : α} (e : l[i]? = some x) : l.take (i + 1) = l.take i ++ [x] := by
  rw [List.take_add_one, e]; rfl
section
variable {w : World} {A : Around} {E : Value → Shared → Prop} {s σ : Shared} {hz h0 : Heap} {L fd : Addr} {ls : List (Str × Value)} {kvs : List (Str × Value)} {Ss : List Spec}
theorem ns_cell {h : Heap} {a c m v} (n : h.Ns a m) (e : h.IsCell c v) : a ≠ c := by
  rintro rfl
  obtain ⟨o, es, ep, e1, d, _⟩ := n
  obtain ⟨o', e2, d'⟩ := e
  rw [e1] at e2; cases e2
  rw [d] at d'; cases d'
/-- found, read in law -/
theorem foundW {pos : Pos} {v : Value} {Q : Value → Shared → Prop} (c : s.heap.IsCell (L + 1) (some v)) (h : Q v s) : wpAny (Mw w) A (eval (.Name "found" pos) (eW L)) Q E s :=
  wpAny_Name (wpAny_loadName_cell rfl (by kernel_rfl) rfl c h) (by decide +kernel)
/-- [found[name].told() for name in found] -/
theorem told_comp {sc : Scope} {p1 p2 p3 p4 p5 p6 p7 p8 : Pos} {Q : Value → Shared → Prop} (B : Bd w [] σ h0 L hz s.heap ls) (c : s.heap.IsCell (L + 1) (some (.ref fd))) (F : DictS w s.heap fd kvs) (FI : FoundIs s.heap fd kvs Ss) (hn : kvs.length ≤ 100) (hm : (fd == sysModules) = false) (hfL : L < fd)
    (h : ∀ D h' tk' ys, Bd w [] σ h0 L hz h' ls → Ext [] s.heap h' → s.heap.get? D = none → h'.PlainList D ys → ToldL h' ys.toList Ss → Q (.ref D) (St σ h' tk'))
    (ok : Ok A 1 := by walk_at "OK") (S : Same σ s := by walk_at "SM") (hclos : closureFor sc (eW L) = pure [(("found" : Str), L + 1)] := by with_unfolding_all rfl) (hcell : ∀ y ∈ sc.names, y.2 ≠ .cell := by decide +kernel) (hkind : sc.kind = .function := by rfl)
    (hnames : ∀ y ∈ sc.names, y.2 = .local → sc.names.lookup y.1 = some .local := by decide +kernel) (hx : sc.names.lookup ("name" : Str) = some NameKind.local := by kernel_rfl) (hc : ∀ C, eval (.Call (.Attribute (.Subscript (.Name "found" p1) (.Name "name" p2) p3) "told" p4) [] [] p5) (compEnvC sc [("found", L + 1)] C (eW L)) = (do
      let ov ← eval (.Subscript (.Name "found" p1) (.Name "name" p2) p3) (compEnvC sc [("found", L + 1)] C (eW L))
      standAt p4.atName
      let (g, first) ← holding [ov] (getMethod ov "told" (do return (← importBound (.Subscript (.Name "found" p1) (.Name "name" p2) p3) (compEnvC sc [("found", L + 1)] C (eW L))).getD true))
      callWith p5 g first (backTo p5 (starEach [] (compEnvC sc [("found", L + 1)] C (eW L)))) []) := by intro _; rfl) (hr : (relabel sc (eW L)).names.lookup ("found" : Str) = some NameKind.cell := by kernel_rfl) :
    wpAny (Mw w) A (eval (.ListComp (.Call (.Attribute (.Subscript (.Name "found" p1) (.Name "name" p2) p3) "told" p4) [] [] p5) [⟨.Name "name" p6, .Name "found" p7, [], 0⟩] sc p8) (eW L)) Q E s := by
  obtain ⟨ep, F1⟩ := F.dictAt
  have hfl := F1.lt_size
  have hlen := FI.length
  refine comp_turns hclos hcell hkind hnames hx (foundW c (wpAny_pyIter_dict hm F1 ?_))
  have x1 : Ext [] s.heap (s.heap.push { cls := .type "dict_keyiterator", data := .fields #[.ref fd, .int 0 0, .int kvs.length 0, .int ep 0] }) := Ext.push _ _
  have i1 : (s.heap.push { cls := .type "dict_keyiterator", data := .fields #[.ref fd, .int 0 0, .int kvs.length 0, .int ep 0] }).IsKeyIter s.heap.objs.size fd 0 kvs.length ep := ⟨_, Heap.get?_push_size _ rfl, rfl, rfl⟩
  have hp : (s.heap.push { cls := .type "dict_keyiterator", data := .fields #[.ref fd, .int 0 0, .int kvs.length 0, .int ep 0] }).objs.size = s.heap.objs.size + 1 := Heap.size_push _ _
  have hLs := B.Llt
  refine ⟨_, _, _, _, _, _, L, fun i ys h => Ext [] s.heap h ∧ ToldL h ys.toList (Ss.take i), rfl, Walks.dictKeys (knd := strKind PR w) ok.hd s.heap.objs.size fd (Nat.ne_of_lt hfl) kvs ep, by rw [sizeLine_eq]; omega, ⟨i1, F1.push _⟩, ?_, ⟨?_, ?_, ?_, ?_, ⟨x1, .nil⟩, ?_⟩, ?_⟩
  · intro b hb
    rw [hp]
    rcases List.mem_cons.mp hb with rfl | hb
    · exact Nat.lt_succ_self _
    · rcases List.mem_cons.mp hb with rfl | hb
      · exact Nat.lt_succ_of_lt hfl
      · cases hb
  · rw [hp]; exact Nat.lt_succ_of_lt hLs
  · intro m
    rcases List.mem_cons.mp m with e | m
    · exact Nat.ne_of_lt hLs e
    · rcases List.mem_cons.mp m with e | m
      · exact Nat.ne_of_lt hfL e
      · cases m
  · intro i h b o q hb e
    rcases List.mem_cons.mp hb with rfl | hb
    · obtain ⟨⟨o', e', c', _⟩, _⟩ := q
      rw [e] at e'; cases e'
      rw [c']; exact fun q => absurd (Value.type.inj q) (by decide)
    · cases hb
  · intro i ys h h' ⟨x, T⟩ te k
    refine ⟨fun b o e n => k b o (by rw [hp]; exact Nat.lt_succ_of_lt (Heap.lt_size e)) (fun m => ?_) (x b o e n), T.te te⟩
    rcases List.mem_cons.mp m with e' | m
    · exact Nat.ne_of_lt (Heap.lt_size e) e'
    · cases m
  · intro i C v ys s₃ m₃ E' hi hys pv J S₃ hC ns hmn k
    obtain ⟨x, T⟩ := J
    obtain ⟨kk, vv, hkv, hkey⟩ := pv
    obtain ⟨t, rfl⟩ := Value.isStrOf_shape hkey
    refine wpAny_tests_nil ?_
    simp only [if_true]
    obtain ⟨sp, sd, S', rfl, hsp, hS, rfl⟩ := found_at FI i kk vv hkv
    have c3 : s₃.heap.IsCell (L + 1) (some (.ref fd)) := let ⟨o, e, d⟩ := c; ⟨o, x _ _ e nil_not, d⟩
    have F3 := dicts_ext F x fun m => nomatch m
    have P3 := hsp.kp x
    have B3 := B.ext x fun _ m => nomatch m
    obtain ⟨t1, t2, t3, t4, t5, t6, t7, al, rc, I, _⟩ := id P3
    obtain ⟨es, nn, I', H⟩ := I.at
    have hnd : (kvs.map (·.1)).Nodup := F1.nodup
    refine MethodCall_ (Subscript_ (wpAny_Name (wpAny_loadName_cell hkind hr rfl c3 (ldVarK ns hmn ?_ (hk := hkind) (hl := lookup_relabel_local hx))) (by decide +kernel))) (hc C)
    refine subscriptTail_builtin F3.typeIs PySem.F.slot_dict_getitem.lookup (wpAny_getItem_of (strKind_is PR w _ t) F3.mapOf (valueAt_nth hnd i _ _ hkv) ?_)
    refine method_inst (s := { s₃ with toks := s₃.toks + 1 }) B3.F B3.G.X I' (ms_FileSpec_told w).hg (ms_FileSpec_told w).hf (ms_FileSpec_told w).ht (by rw [H.get]; rfl) ?_
    refine callWith_K0 (B3.G.X.keeps B3.F.keep) (ms_FileSpec_told w).keep ?_
    have S4 : Same s { s₃ with toks := s₃.toks + 1 } := ⟨by rw [S₃.eq]⟩
    refine Bd.use (s := { s₃ with toks := s₃.toks + 1 }) B3 (told_c B3.G1 P3) (fun v h' tk' B' x' p => ?_) (S.trans S4) ok nil_mem
    obtain ⟨a, rfl, ta⟩ := p
    refine ⟨⟨((S.trans S4).st h' tk').symm⟩, fun b o _ e => x' b o e nil_not, x.trans x', ?_⟩
    rw [take_snoc hS, Array.toList_push]
    exact (T.te x'.te).snoc ta
  · intro D h' tk ys hD hpl J k
    obtain ⟨x, T⟩ := J
    rw [List.take_of_length_le (by omega)] at T
    have := h D h' tk ys (B.ext x fun _ m => nomatch m) x ?_ hpl T
    · rw [← S.st h' tk] at this
      exact this
    · cases q : s.heap.get? D with
      | none => rfl
      | some o => rw [Heap.get?_push_of_some _ q] at hD; cases hD
end
section
variable {w : World} {A : Around} {E : Value → Shared → Prop} {s σ : Shared} {hz h0 : Heap} {L fd dl : Addr} {ls : List (Str × Value)} {kvs : List (Str × Value)} {Ss : List Spec}
/-- [name for name in found] -/
theorem name_comp {sc : Scope} {p1 p6 p7 p8 : Pos} {Q : Value → Shared → Prop} (B : Bd w [] σ h0 L hz s.heap ls) (c : s.heap.IsCell (L + 1) (some (.ref fd))) (F : DictS w s.heap fd kvs) (FI : FoundIs s.heap fd kvs Ss) (hn : kvs.length ≤ 100) (hm : (fd == sysModules) = false) (hfL : L < fd)
    (h : ∀ D h' tk' ys, Bd w [] σ h0 L hz h' ls → Ext [] s.heap h' → s.heap.get? D = none → h'.PlainList D ys → StrsAre ys.toList (Ss.map (·.name)) → Q (.ref D) (St σ h' tk'))
    (ok : Ok A 1 := by walk_at "OK") (S : Same σ s := by walk_at "SM") (hclos : closureFor sc (eW L) = pure [] := by exact closureFor_none (by decide +kernel)) (hcell : ∀ y ∈ sc.names, y.2 ≠ .cell := by decide +kernel) (hkind : sc.kind = .function := by rfl)
    (hnames : ∀ y ∈ sc.names, y.2 = .local → sc.names.lookup y.1 = some .local := by decide +kernel) (hx : sc.names.lookup ("name" : Str) = some NameKind.local := by kernel_rfl) :
    wpAny (Mw w) A (eval (.ListComp (.Name "name" p1) [⟨.Name "name" p6, .Name "found" p7, [], 0⟩] sc p8) (eW L)) Q E s := by
  obtain ⟨ep, F1⟩ := F.dictAt
  have hfl := F1.lt_size
  have hlen := FI.length
  refine comp_turns hclos hcell hkind hnames hx (foundW c (wpAny_pyIter_dict hm F1 ?_))
  have x1 : Ext [] s.heap (s.heap.push { cls := .type "dict_keyiterator", data := .fields #[.ref fd, .int 0 0, .int kvs.length 0, .int ep 0] }) := Ext.push _ _
  have i1 : (s.heap.push { cls := .type "dict_keyiterator", data := .fields #[.ref fd, .int 0 0, .int kvs.length 0, .int ep 0] }).IsKeyIter s.heap.objs.size fd 0 kvs.length ep := ⟨_, Heap.get?_push_size _ rfl, rfl, rfl⟩
  have hp : (s.heap.push { cls := .type "dict_keyiterator", data := .fields #[.ref fd, .int 0 0, .int kvs.length 0, .int ep 0] }).objs.size = s.heap.objs.size + 1 := Heap.size_push _ _
  have hLs := B.Llt
  refine ⟨_, _, _, _, _, _, L, fun i ys h => Ext [] s.heap h ∧ StrsAre ys.toList ((Ss.map (·.name)).take i), rfl, Walks.dictKeys (knd := strKind PR w) ok.hd s.heap.objs.size fd (Nat.ne_of_lt hfl) kvs ep, by rw [sizeLine_eq]; omega, ⟨i1, F1.push _⟩, ?_, ⟨?_, ?_, ?_, ?_, ⟨x1, .nil⟩, ?_⟩, ?_⟩
  · intro b hb
    rw [hp]
    rcases List.mem_cons.mp hb with rfl | hb
    · exact Nat.lt_succ_self _
    · rcases List.mem_cons.mp hb with rfl | hb
      · exact Nat.lt_succ_of_lt hfl
      · cases hb
  · rw [hp]; exact Nat.lt_succ_of_lt hLs
  · intro m
    rcases List.mem_cons.mp m with e | m
    · exact Nat.ne_of_lt hLs e
    · rcases List.mem_cons.mp m with e | m
      · exact Nat.ne_of_lt hfL e
      · cases m
  · intro i h b o q hb e
    rcases List.mem_cons.mp hb with rfl | hb
    · obtain ⟨⟨o', e', c', _⟩, _⟩ := q
      rw [e] at e'; cases e'
      rw [c']; exact fun q => absurd (Value.type.inj q) (by decide)
    · cases hb
  · intro i ys h h' ⟨x, T⟩ te k
    refine ⟨fun b o e n => k b o (by rw [hp]; exact Nat.lt_succ_of_lt (Heap.lt_size e)) (fun m => ?_) (x b o e n), T⟩
    rcases List.mem_cons.mp m with e' | m
    · exact Nat.ne_of_lt (Heap.lt_size e) e'
    · cases m
  · intro i C v ys s₃ m₃ E' hi hys pv J S₃ hC ns hmn k
    obtain ⟨x, T⟩ := J
    obtain ⟨kk, vv, hkv, hkey⟩ := pv
    obtain ⟨t, rfl⟩ := Value.isStrOf_shape hkey
    refine wpAny_tests_nil ?_
    simp only [if_true]
    obtain ⟨sp, sd, S', rfl, hsp, hS, rfl⟩ := found_at FI i kk vv hkv
    refine ldVarK ns hmn ⟨⟨rfl⟩, fun b o _ e => e, x, ?_⟩ (hk := hkind) (hl := lookup_relabel_local hx)
    rw [take_snoc (l := Ss.map (·.name)) (x := S'.name) (by rw [List.getElem?_map, hS]; rfl), Array.toList_push]
    exact strs_app T (.cons _ _ .nil)
  · intro D h' tk ys hD hpl J k
    obtain ⟨x, T⟩ := J
    rw [List.take_of_length_le (by rw [List.length_map]; omega)] at T
    have := h D h' tk ys (B.ext x fun _ m => nomatch m) x ?_ hpl T
    · rw [← S.st h' tk] at this
      exact this
    · cases q : s.heap.get? D with
      | none => rfl
      | some o => rw [Heap.get?_push_of_some _ q] at hD; cases hD
/-- [due[0] for due in dues] -/
theorem due_comp {sc : Scope} {p1 p2 p3 p6 p7 p8 : Pos} {vs : List Value} {Q : Value → Shared → Prop} (B : Bd w [] σ h0 L hz s.heap ls) (P : s.heap.PlainList dl vs.toArray) (T0 : ToldL s.heap vs Ss) (hn : vs.length ≤ 100) (hdL : dl ≠ L)
    (h : ∀ D h' tk' ys, Bd w [] σ h0 L hz h' ls → Ext [] s.heap h' → s.heap.get? D = none → h'.PlainList D ys → StrsAre ys.toList (Ss.map (·.name)) → Q (.ref D) (St σ h' tk'))
    (ok : Ok A 1 := by walk_at "OK") (S : Same σ s := by walk_at "SM") (hd : look ls "dues" = some (.ref dl) := by walk_at "LK") (S1 : Loc s_408 "dues" := by walk_at "LOC") (hclos : closureFor sc (eW L) = pure [] := by exact closureFor_none (by decide +kernel)) (hcell : ∀ y ∈ sc.names, y.2 ≠ .cell := by decide +kernel) (hkind : sc.kind = .function := by rfl)
    (hnames : ∀ y ∈ sc.names, y.2 = .local → sc.names.lookup y.1 = some .local := by decide +kernel) (hx : sc.names.lookup ("due" : Str) = some NameKind.local := by kernel_rfl) :
    wpAny (Mw w) A (eval (.ListComp (.Subscript (.Name "due" p1) (.Constant (.int 0) 0 p2) p3) [⟨.Name "due" p6, .Name "dues" p7, [], 0⟩] sc p8) (eW L)) Q E s := by
  have hfl : dl < s.heap.objs.size := by obtain ⟨n, e⟩ := P; exact Heap.lt_size e
  have hlen := T0.length
  have hsz : vs.toArray.size = vs.length := by simp
  refine comp_turns hclos hcell hkind hnames hx (nX_ B (wpAny_pyIter_list (pl_isList P) ?_) S1 hd)
  have x1 : Ext [] s.heap (s.heap.push { cls := .type "list_iterator", data := .fields #[.ref dl, .int 0 0] }) := Ext.push _ _
  have i1 : (s.heap.push { cls := .type "list_iterator", data := .fields #[.ref dl, .int 0 0] }).IsListIter s.heap.objs.size dl 0 := ⟨_, Heap.get?_push_size _ rfl, rfl, rfl⟩
  have hp : (s.heap.push { cls := .type "list_iterator", data := .fields #[.ref dl, .int 0 0] }).objs.size = s.heap.objs.size + 1 := Heap.size_push _ _
  have hLs := B.Llt
  refine ⟨_, _, _, _, _, _, L, fun i ys h => Ext [] s.heap h ∧ StrsAre ys.toList ((Ss.map (·.name)).take i), rfl, Walks.list ok.hd s.heap.objs.size dl (Nat.ne_of_lt hfl) vs.toArray, by rw [sizeLine_eq]; omega, ⟨i1, il_ext (pl_isList P) x1 nil_not⟩, ?_, ⟨?_, ?_, ?_, ?_, ⟨x1, .nil⟩, ?_⟩, ?_⟩
  · intro b hb
    rw [hp]
    rcases List.mem_cons.mp hb with rfl | hb
    · exact Nat.lt_succ_self _
    · rcases List.mem_cons.mp hb with rfl | hb
      · exact Nat.lt_succ_of_lt hfl
      · cases hb
  · rw [hp]; exact Nat.lt_succ_of_lt hLs
  · intro m
    rcases List.mem_cons.mp m with e | m
    · exact Nat.ne_of_lt hLs e
    · rcases List.mem_cons.mp m with e | m
      · exact hdL e.symm
      · cases m
  · intro i h b o q hb e
    rcases List.mem_cons.mp hb with rfl | hb
    · obtain ⟨⟨o', e', c', _⟩, _⟩ := q
      rw [e] at e'; cases e'
      rw [c']; exact fun q => absurd (Value.type.inj q) (by decide)
    · cases hb
  · intro i ys h h' ⟨x, T⟩ te k
    refine ⟨fun b o e n => k b o (by rw [hp]; exact Nat.lt_succ_of_lt (Heap.lt_size e)) (fun m => ?_) (x b o e n), T⟩
    rcases List.mem_cons.mp m with e' | m
    · exact Nat.ne_of_lt (Heap.lt_size e) e'
    · cases m
  · intro i C v ys s₃ m₃ E' hi hys pv J S₃ hC ns hmn k
    obtain ⟨x, T⟩ := J
    have pv : vs[i]? = some v := by simpa using pv
    refine wpAny_tests_nil ?_
    simp only [if_true]
    have hi' : i < Ss.length := by omega
    obtain ⟨a, rfl, ta⟩ := T0.at i v _ pv (List.getElem?_eq_getElem hi')
    obtain ⟨t1, t2, t3, t4, t5, t6, t7, al, rc, g, _, _⟩ := ta.te x.te
    refine Subscript_ (ldVarK ns hmn (wpAny_Constant_int ?_) (hk := hkind) (hl := lookup_relabel_local hx))
    refine tupitem_ (s := { s₃ with toks := s₃.toks + 1 }) g (by decide) (by simp) (by simp) rfl ⟨⟨rfl⟩, fun b o _ e => e, x, ?_⟩
    rw [take_snoc (l := Ss.map (·.name)) (x := Ss[i].name) (by rw [List.getElem?_map, List.getElem?_eq_getElem hi']; rfl), Array.toList_push]
    exact strs_app T (.cons _ _ .nil)
  · intro D h' tk ys hD hpl J k
    obtain ⟨x, T⟩ := J
    rw [List.take_of_length_le (by rw [List.length_map]; omega)] at T
    have := h D h' tk ys (B.ext x fun _ m => nomatch m) x ?_ hpl T
    · rw [← S.st h' tk] at this
      exact this
    · cases q : s.heap.get? D with
      | none => rfl
      | some o => rw [Heap.get?_push_of_some _ q] at hD; cases hD
end
theorem Bd.sl {w : World} {D : List Addr} {σ : Shared} {h0 hz h h' : Heap} {L : Addr} {ls : List (Str × Value)} (B : Bd w D σ h0 L hz h ls) (x : Ext [L] h h') (sl : SlK [L] h h') : Bd w D σ h0 L hz h' ls := by
  refine B.step ⟨?_, fun b o e => x b o (B.keep b o e) (nin1 ?_), B.F.above⟩ x fun d m => .inr (one_mem m (Nat.le_refl _))
  · obtain ⟨o, es, ep, e, r⟩ := B.F.ns
    obtain ⟨sl', e'⟩ := sl L (.head _) o e
    exact ⟨_, es, ep, e', r⟩
  · rintro rfl
    exact absurd (Heap.lt_size e) (Nat.not_lt.mpr B.F.above)
section
variable {w : World} {A : Around} {E : Value → Shared → Prop} {s σ : Shared} {hz h0 : Heap} {L : Addr} {ls : List (Str × Value)}
theorem Bd.stkW {h : Heap} (B : Bd w [] σ h0 L hz h ls) (stA : A.frames = some [eW L]) (h409 : 409 ≤ L) : Stk A [eW L] [] h := by
  obtain ⟨o, es, ep, ho, hd, _⟩ := B.F.ns
  refine ⟨stA, ⟨by show s_408.kind ≠ .module; decide +kernel, ⟨L, o, rfl, ?_, ho, fun vs => by rw [hd]; intro q; cases q⟩, trivial⟩, fun b m => ⟨fun q => (nomatch q), ?_⟩⟩
  · exact hideAll_none _ (List.mem_append_right _ (.head _))
  · rcases List.mem_cons.mp m with rfl | m
    · exact h409
    · cases m
/-- [one for one in wrong + others + more if not _law_refused(one)] -/
theorem refused_comp {sc : Scope} {p1 p2 p3 p4 p5 p6 p7 p8 p9 p10 p11 p12 : Pos} {t1 t2 t3 : Addr} {v1 v2 v3 : List Value} {Q : Value → Shared → Prop} (B : Bd w [] σ h0 L hz s.heap ls)
    (T1 : IsTup s.heap t1 v1.toArray) (T2 : IsTup s.heap t2 v2.toArray) (T3 : IsTup s.heap t3 v3.toArray) (V : StrsAre (v1 ++ v2 ++ v3) badL) (stA : A.frames = some [eW L]) (h409 : 409 ≤ L)
    (h : ∀ D h' tk', Bd w [] σ h0 L hz h' ls → h'.PlainList D #[] → Q (.ref D) (St σ h' tk'))
    (ok : Ok A 11 := by walk_at "OK") (S : Same σ s := by walk_at "SM") (l1 : look ls "wrong" = some (.ref t1) := by walk_at "LK") (l2 : look ls "others" = some (.ref t2) := by walk_at "LK") (l3 : look ls "more" = some (.ref t3) := by walk_at "LK")
    (S1 : Loc s_408 "wrong" := by walk_at "LOC") (S2 : Loc s_408 "others" := by walk_at "LOC") (S3 : Loc s_408 "more" := by walk_at "LOC")
    (hclos : closureFor sc (eW L) = pure [] := by exact closureFor_none (by decide +kernel)) (hcell : ∀ y ∈ sc.names, y.2 ≠ .cell := by decide +kernel) (hkind : sc.kind = .function := by rfl)
    (hnames : ∀ y ∈ sc.names, y.2 = .local → sc.names.lookup y.1 = some .local := by decide +kernel) (hx : sc.names.lookup ("one" : Str) = some NameKind.local := by kernel_rfl) (hg : (relabel sc (eW L)).names.lookup ("_law_refused" : Str) = some NameKind.globalImplicit := by kernel_rfl) :
    wpAny (Mw w) A (eval (.ListComp (.Name "one" p1) [⟨.Name "one" p2, .BinOp (.BinOp (.Name "wrong" p3) .Add (.Name "others" p4) p5) .Add (.Name "more" p6) p7, [.UnaryOp .Not (.Call (.Name "_law_refused" p8) [.Name "one" p9] [] p10) p11], 0⟩] sc p12) (eW L)) Q E s := by
  have hlen : (v1 ++ v2 ++ v3).length = badL.length := strs_length V
  have hbl : badL.length = 13 := rfl
  have hl2 : v1.length + v2.length + v3.length = 13 := by rw [← hbl, ← hlen]; simp [Nat.add_assoc]
  refine comp_turns hclos hcell hkind hnames hx (wpAny_BinOp (wpAny_BinOp (nX_ B (nX_ B (addt_ B T1 T2 (fun a h₁ tk₁ B₁ x₁ Ta => nX_ B₁ (addt_ B₁ Ta (tup_ext T3 x₁ (one_dict B.isDict)) (fun a2 h₂ tk₂ B₂ x₂ Tb => wpAny_pyIter_tuple Tb ?_) (by rw [sizeLine_eq, List.length_append]; omega)) S3 l3) (by rw [sizeLine_eq]; omega) S) S2 l2) S1 l1)))
  generalize hvs : v1 ++ v2 ++ v3 = vs at *
  have x1 : Ext [] h₂ (h₂.push { cls := .type "tuple_iterator", data := .fields #[.ref a2, .int 0 0] }) := Ext.push _ _
  have i1 : (h₂.push { cls := .type "tuple_iterator", data := .fields #[.ref a2, .int 0 0] }).IsTupleIter h₂.objs.size a2 0 := ⟨_, Heap.get?_push_size _ rfl, rfl, rfl⟩
  have hp : (h₂.push { cls := .type "tuple_iterator", data := .fields #[.ref a2, .int 0 0] }).objs.size = h₂.objs.size + 1 := Heap.size_push _ _
  have hLs := B₂.Llt
  have hal : a2 < h₂.objs.size := Tb.lt
  have haL : L ≠ a2 := by
    rintro rfl
    obtain ⟨o, es, ep, e, d, _⟩ := B₂.F.ns
    obtain ⟨o', e', _, n, d'⟩ := Tb
    rw [e] at e'; cases e'
    rw [d] at d'; cases d'
  refine ⟨_, _, _, _, _, _, L, fun i ys h => Ext [L] h₂ h ∧ SlK [L] h₂ h ∧ ys = #[], rfl, Walks.tuple ok.hd h₂.objs.size a2 (Nat.ne_of_lt hal) vs.toArray, by rw [sizeLine_eq]; simp; omega, ⟨i1, Tb.push _⟩, ?_, ⟨?_, ?_, ?_, ?_, ⟨fun b o e _ => x1 b o e nil_not, fun b m o e => ⟨o.slots, x1 b o e nil_not⟩, rfl⟩, ?_⟩, ?_⟩
  · intro b hb
    rw [hp]
    rcases List.mem_cons.mp hb with rfl | hb
    · exact Nat.lt_succ_self _
    · rcases List.mem_cons.mp hb with rfl | hb
      · exact Nat.lt_succ_of_lt hal
      · cases hb
  · rw [hp]; exact Nat.lt_succ_of_lt hLs
  · intro m
    rcases List.mem_cons.mp m with e | m
    · exact Nat.ne_of_lt hLs e
    · rcases List.mem_cons.mp m with e | m
      · exact haL e
      · cases m
  · intro i h b o q hb e
    rcases List.mem_cons.mp hb with rfl | hb
    · obtain ⟨⟨o', e', c', _⟩, _⟩ := q
      rw [e] at e'; cases e'
      rw [c']; exact fun q => absurd (Value.type.inj q) (by decide)
    · cases hb
  · intro i ys h h' ⟨x, sl, hy⟩ te k
    have up : ∀ b o o', h₂.get? b = some o → h.get? b = some o' → h'.get? b = some o' := fun b o o' e e' => k b o' (by rw [hp]; exact Nat.lt_succ_of_lt (Heap.lt_size e)) (fun m => by
      rcases List.mem_cons.mp m with q | m
      · exact Nat.ne_of_lt (Heap.lt_size e) q
      · cases m) e'
    exact ⟨fun b o e n => up b o o e (x b o e n), fun b m o e => let ⟨sl', e'⟩ := sl b m o e; ⟨sl', up b o _ e e'⟩, hy⟩
  · intro i C v ys s₃ m₃ E' hi hys pv J S₃ hC ns hmn k
    obtain ⟨x, sl, rfl⟩ := J
    have pv : vs[i]? = some v := by simpa using pv
    have hm := List.mem_of_getElem? pv
    obtain ⟨xt, t, rfl, hb⟩ := strs_mem V hm
    obtain ⟨hl, ws, Ss, rem', hJ, hw, hE⟩ := bad_all xt hb
    have B3 := B₂.sl x sl
    refine wpAny_tests_one (isTrue_not (isTrue_plain (Call_ ?_ (by with_unfolding_all rfl)) (by with_unfolding_all rfl)))
    have G3 := B3.G1
    obtain ⟨p, l, mg, mb, T⟩ := G3.T
    refine Calls.Name_function_global hkind hg (Calls.loadGlobal_global (env := compEnvC sc [] C (eW L)) T.g (mg_of G3.X T.g (gl__law_refused w)) ?_) (by decide +kernel)
    refine callWith_K (first := []) G3.X (kp__law_refused w) (args_cons (ldVarK ns hmn (args_nil ⟨G3.X, ?_⟩) (hk := hkind) (hl := lookup_relabel_local hx)) (by rfl)) (by rfl)
    refine wpAny_call (law_refused_c G3 hJ hl hw hE rfl (ok.le (by decide)) (B3.stkW stA h409) fun h' tk' kp sl' => ?_)
    refine wpAny_truthy_bool ?_
    simp only [Bool.not_true, Bool.false_eq_true, if_false]
    refine ⟨⟨rfl⟩, fun b o n e => kp b o e (fun m => by rcases List.mem_cons.mp m with q | m; exact n q; cases m), fun b o e n => kp b o (x b o e n) n, sl.trans sl', trivial⟩
  · intro D h' tk ys hD hpl J k
    obtain ⟨x, sl, rfl⟩ := J
    exact h D h' tk (B₂.sl x sl) hpl
end
structure LawS (w : World) (σ : Shared) (h0 : Heap) (L : Addr) (hz h : Heap) (tp : Addr) (ls : List (Str × Value)) (k : Nat) : Prop where
  B : Bd w [] σ h0 L hz h ls
  T : Tape h tp k
  tape : look ls "tape" = some (.ref tp)
  tL : L + 1 < tp
  cell : ∃ v, h.IsCell (L + 1) v
theorem cell_lt {h : Heap} {c : Addr} {v} (P : h.IsCell c v) : c < h.objs.size := let ⟨_, e, _⟩ := P; Heap.lt_size e
theorem cell_ext {h h' : Heap} {D : List Addr} {c : Addr} {v} (P : h.IsCell c v) (x : Ext D h h') (n : c ∉ D) : h'.IsCell c v := let ⟨o, e, d⟩ := P; ⟨o, x _ _ e n, d⟩
section
variable {w : World} {σ : Shared} {h0 hz h h' : Heap} {L tp : Addr} {ls : List (Str × Value)} {k : Nat}
theorem LawS.ltp (S : LawS w σ h0 L hz h tp ls k) : L < tp := Nat.lt_of_succ_lt S.tL
theorem LawS.draw (S : LawS w σ h0 L hz h tp ls k) (B : Bd w [] σ h0 L hz h' ls) (x : Ext [tp] h h') {k'} (T : Tape h' tp k') : LawS w σ h0 L hz h' tp ls k' :=
  ⟨B, T, S.tape, S.tL, let ⟨v, c⟩ := S.cell; ⟨v, cell_ext c x (nin1 (Nat.ne_of_lt S.tL))⟩⟩
theorem LawS.dict (S : LawS w σ h0 L hz h tp ls k) (B : Bd w [] σ h0 L hz h' ls) (x : Ext [L] h h') : LawS w σ h0 L hz h' tp ls k :=
  ⟨B, S.T.ext x (one_dict S.B.isDict), S.tape, S.tL, let ⟨v, c⟩ := S.cell; ⟨v, cell_ext c x (nin1 (Nat.ne_of_gt (Nat.lt_succ_self L)))⟩⟩
theorem LawS.keep (S : LawS w σ h0 L hz h tp ls k) (x : Ext [] h h') : LawS w σ h0 L hz h' tp ls k :=
  ⟨S.B.ext x nil_mem, S.T.keeps x, S.tape, S.tL, let ⟨v, c⟩ := S.cell; ⟨v, cell_ext c x nil_not⟩⟩
theorem LawS.put (S : LawS w σ h0 L hz h tp ls k) {x : Str} {v : Value} (B : Bd w [] σ h0 L hz h' ((x, v) :: ls)) (e : Ext [L] h h') (hx : (("tape" : Str) == x) = false := by decide +kernel) : LawS w σ h0 L hz h' tp ((x, v) :: ls) k :=
  ⟨B, S.T.ext e (one_dict S.B.isDict), look_skip S.tape hx, S.tL, let ⟨v, c⟩ := S.cell; ⟨v, cell_ext c e (nin1 (Nat.ne_of_gt (Nat.lt_succ_self L)))⟩⟩
end
theorem pl_push (h : Heap) (vs : List Value) : (h.push { cls := .type "list", data := .seq vs.toArray }).PlainList h.objs.size vs.toArray := ⟨_, Heap.get?_push_size _ rfl⟩
section
variable {w : World} {A : Around} {K : Flow → Shared → Prop} {E : Value → Shared → Prop} {σ : Shared} {h0 hz h h' : Heap} {L tp sl : Addr} {ls : List (Str × Value)} {k : Nat}
theorem law0 {tk : Tok} {vs : List Value} {cv : Option Value} (B : Bd w [] σ h0 L hz h [("script", .ref sl)]) (P : h.IsList sl vs.toArray) (I : ∀ v ∈ vs, ∃ k u, v = Value.int k u) (hn : vs.length ≤ 1000) (c : h.IsCell (L + 1) cv) (h409 : 409 ≤ L) (ok : Ok A 2)
    (next : ∀ tp h' tk', LawS w σ h0 L hz h' tp [("tape", .ref tp), ("script", .ref sl)] 0 → wpAny (Mw w) A (execs (b_408.drop 1) (eW L)) K E (St σ h' tk')) :
    wpAny (Mw w) A (execs (b_408.drop 0) (eW L)) K E (St σ h tk) := by
  have hL1 := cell_lt c
  refine wpAny_execs_cons (asX (wpAny_List (args_cons (mono_q (fun v s' => ∃ (a : Addr) (xs : List Value) (h' : Heap) (tk' : Tok), v = Value.ref a ∧ s' = St σ h' tk' ∧ Bd w [] σ h0 L hz h' [("script", .ref sl)] ∧ h'.IsCell (L + 1) cv ∧ L + 1 < a ∧ h'.IsList a xs.toArray ∧ 1 ≤ xs.length ∧ xs.length ≤ 50 ∧ ∀ v ∈ xs, ∃ k u, v = Value.int k u) ?_ ?_))))
  · refine BoolOp_or (Call_ (bX_ B (gn_list w) (PyProof.Rows.callWith_type1 (args_cons (Subscript_ (nX_ B (v := .ref sl) (wpAny_Slice (evalPart_none_step (evalPart_some_step (wpAny_Constant_int (evalPart_none_step ?_))))))) (by rfl)))))
    refine slicel_ (s := St σ h (tk + 1)) B P .none (.int _ _) (fun a h₁ tk₁ B₁ x₁ f₁ M₁ => args_nil ?_) (by simp; omega)
    rw [show (50 : Int) = ((50 : Nat) : Int) from rfl, slicePick_upto'] at M₁
    have c₁ := cell_ext c x₁ (nin1 (Nat.ne_of_gt (Nat.lt_succ_self L)))
    obtain ⟨o, e1, e2, n, e3⟩ := pl_isList M₁
    refine call_list_seq (s := St σ h₁ tk₁) a (T := "list") (.inl rfl) e1 e2 e3 (fun h₂ c' k₂ hD => ?_) (by rw [sizeLine_eq]; simp; omega)
    have x₂ : Ext [] h₁ h₂ := fun b o e _ => k₂ b o e
    have B₂ := B₁.ext x₂ nil_mem
    have c₂ := cell_ext c₁ x₂ nil_not
    have P₂ : h₂.IsList h₁.objs.size ((vs.take 50).toArray) := ⟨_, hD, rfl, c', by simp⟩
    have hlt : L + 1 < h₁.objs.size := cell_lt c₁
    have hl50 : (vs.take 50).length ≤ 50 := List.length_take_le _ _
    have hI50 : ∀ v ∈ vs.take 50, ∃ k u, v = Value.int k u := fun v m => I v (List.mem_of_mem_take m)
    generalize vs.take 50 = xs at *
    clear M₁ e1 e2 e3 hD k₂
    generalize h₁.objs.size = a2 at *
    refine wpAny_mono (Q := fun b s' => b = (!xs.toArray.isEmpty) ∧ s' = St σ h₂ (tk₁ + 1 + 1)) (wpAny_truthy_list (s := St σ h₂ tk₁) P₂ (by simp; omega) ⟨rfl, rfl⟩) ?_ fun _ _ x => x
    rintro b s' ⟨rfl, rfl⟩
    cases xs with
    | nil =>
      rw [show (!([] : List Value).toArray.isEmpty) = false from rfl, if_neg (by decide)]
      refine BoolOp_one (wpAny_List (args_cons (wpAny_Constant_int (args_nil ⟨szl rfl, ?_⟩))))
      exact ⟨_, [Value.int 2 _], _, _, rfl, rfl, B₂.push _, cell_ext c₂ (Ext.push _ _) nil_not, cell_lt c₂, pl_isList (pl_push _ _), Nat.le_refl _, Nat.le_of_ble_eq_true rfl, fun v m => one_mem m (⟨_, _, rfl⟩)⟩
    | cons y r =>
      rw [show (!(y :: r).toArray.isEmpty) = true by simp, if_pos rfl]
      exact ⟨_, y :: r, h₂, _, rfl, rfl, B₂, c₂, hlt, P₂, by simp, hl50, hI50⟩
  · rintro v s' ⟨a, xs, h₁, tk₁, rfl, rfl, B₁, c₁, ha, P₁, l1, l2, I₁⟩
    refine args_cons (wpAny_Constant_int (args_nil ⟨szl rfl, ?_⟩))
    generalize ho : ({ cls := .type "list", data := .seq [Value.ref a, .int 0 tk₁].toArray } : Obj) = o
    have B₂ := B₁.push o
    have x₂ : Ext [] h₁ (h₁.push o) := Ext.push _ _
    have M₂ : (h₁.push o).IsList h₁.objs.size #[Value.ref a, .int ((0 : Nat) : Int) tk₁] := by rw [← ho]; exact pl_isList (pl_push h₁ [Value.ref a, .int 0 tk₁])
    have hal : a < h₁.objs.size := let ⟨_, e, _⟩ := P₁; Heap.lt_size e
    have T₂ : Tape (h₁.push o) h₁.objs.size 0 := ⟨a, tk₁, xs.toArray, M₂, il_ext P₁ x₂ nil_not, by simpa using l1, by simpa using l2, fun i v e => I₁ v (by rw [List.getElem?_toArray] at e; exact List.mem_of_getElem? e), hal, Nat.le_trans h409 (Nat.le_of_lt (Nat.lt_trans (Nat.lt_of_succ_lt ha) hal))⟩
    have c₂ := cell_ext c₁ x₂ nil_not
    have htL : L + 1 < h₁.objs.size := cell_lt c₁
    refine sX_ (s := St σ (h₁.push o) _) B₂ fun h₃ tk₃ B₃ x₃ => next _ h₃ tk₃ ⟨B₃, T₂.ext x₃ (one_dict B₂.isDict), look_here _ _ _, htL, _, cell_ext c₂ x₃ (nin1 (Nat.ne_of_gt (Nat.lt_succ_self L)))⟩
theorem law1 {tk : Tok} (S : LawS w σ h0 L hz h tp ls k) (ok : Ok A 2)
    (next : ∀ dl t h' tk', LawS w σ h0 L hz h' tp (("texts", .str "" t) :: ("dues", .ref dl) :: ls) k → h'.PlainList dl #[] → dl ≠ L → dl ≠ tp → wpAny (Mw w) A (execs (b_408.drop 2) (eW L)) K E (St σ h' tk')) :
    wpAny (Mw w) A (execs (b_408.drop 1) (eW L)) K E (St σ h tk) := by
  refine wpAny_execs_cons (Assign_Tuple_swapped (wpAny_Tuple (args_cons (wpAny_Constant_str (args_cons (wpAny_List (args_nil ⟨Nat.zero_le _, args_nil ⟨szl rfl, ?_⟩⟩)))))))
  have M := pl_push h []
  generalize ho1 : ({ cls := .type "list", data := .seq ([] : List Value).toArray } : Obj) = o1 at *
  generalize ho2 : ({ cls := .type "tuple", data := .seq [Value.str "" tk, .ref h.objs.size].toArray } : Obj) = o2
  have T2 : IsTup ((h.push o1).push o2) (h.push o1).objs.size [Value.str "" tk, .ref h.objs.size].toArray := ⟨o2, Heap.get?_push_size _ (by rw [← ho2]; rfl), by rw [← ho2], 0, by rw [← ho2]⟩
  have x1 : Ext [] h (h.push o1) := Ext.push _ _
  have x2 : Ext [] (h.push o1) ((h.push o1).push o2) := Ext.push _ _
  have S₂ := (S.keep x1).keep x2
  have hdL : h.objs.size ≠ L := Nat.ne_of_gt S.B.Llt
  have hdt : h.objs.size ≠ tp := Nat.ne_of_gt S.T.lt.2
  generalize h.objs.size = dl at *
  generalize (h.push o1).objs.size = td at *
  generalize (h.push o1).push o2 = h₂ at *
  show wpAny _ _ (unpackItems (.ref td) 2 none) _ _ _
  refine unpackItems_tuple (items := [Value.str "" tk, .ref dl].toArray) ok.hd T2 fun h₃ he => ?_
  have x3 : Ext [] h₂ h₃ := fun b o e _ => he b o (Nat.ne_of_lt (Heap.lt_size e)) e
  have S₃ := S₂.keep x3
  have M₃ := pl_ext (pl_ext M x2 nil_not) x3 nil_not
  refine assignInOrder_cons (bindName_ (sX_ S₃.B fun h₄ tk₄ B₄ x₄ => assignInOrder_cons (bindName_ (sX_ B₄ fun h₅ tk₅ B₅ x₅ => assignInOrder_nil ?_))))
  have S₄ := S₃.put B₄ x₄
  have S₅ := S₄.put B₅ x₅
  exact next dl tk h₅ tk₅ S₅ (pl_ext (pl_ext M₃ x₄ (nin1 hdL)) x₅ (nin1 hdL)) hdL hdt
end
theorem jtxt_len3 (i : Nat) (h : i < 3) : (jtxt i).length ≤ 10 := by
  match i, h with
  | 0, _ => decide +kernel
  | 1, _ => decide +kernel
  | 2, _ => decide +kernel
theorem ftxt (i : Nat) (h : i < 3) : ("F" : Str) ++ jtxt i = nmI i := by
  match i, h with
  | 0, _ => decide +kernel
  | 1, _ => decide +kernel
  | 2, _ => decide +kernel
theorem nmI_len (i : Nat) : (nmI i).length ≤ 10 := by
  match i with
  | 0 => decide +kernel
  | 1 => decide +kernel
  | n + 2 => show ("F2" : Str).length ≤ 10; decide +kernel
theorem range_sz4 (n : Nat) (h : n < 4) : Builtin.Range.rangeSize 0 (n : Int) 1 = (n : Int) ∧ Builtin.Range.small 0 (n : Int) 1 = true := by
  match n, h with
  | 0, _ => decide +kernel
  | 1, _ => decide +kernel
  | 2, _ => decide +kernel
  | 3, _ => decide +kernel
theorem selTxt_len (nm : Str) (d : Dr) (r : Nat) (opt : Bool) (ho : d.Ok) (hnm : nm.length ≤ 10) : (selTxt nm d.rows r opt).length ≤ 5000 := by
  have hl := rows_len d
  have hc := (rows_count d).2
  have ha := ho.l2
  have hys : ∀ x ∈ rotL r (restL d.rows) ++ altL d.rows, x.length ≤ 100 := fun x m => by
    rcases List.mem_append.mp m with m | m
    · rcases List.mem_append.mp m with m | m
      · exact hl x ((List.mem_filter.mp (List.mem_of_mem_drop m)).1)
      · exact hl x ((List.mem_filter.mp (List.mem_of_mem_take m)).1)
    · exact hl x ((List.mem_filter.mp m).1)
  have h1 : (restL d.rows).length ≤ d.rows.length := List.length_filter_le _ _
  have h2 : (altL d.rows).length ≤ d.rows.length := List.length_filter_le _ _
  have hyn : (rotL r (restL d.rows) ++ altL d.rows).length ≤ 40 := by
    unfold rotL
    simp only [List.length_append, List.length_drop, List.length_take]
    omega
  have hsum := sum_le hys
  have hjl : (Txt.join " " (rotL r (restL d.rows) ++ altL d.rows)).length ≤ 4200 := by
    have e : Txt.join " " (rotL r (restL d.rows) ++ altL d.rows) = Str.join " " (rotL r (restL d.rows) ++ altL d.rows) := StrLaws.glued_eq_join _ _
    rw [e]
    have := StrLaws.join_length_le " " (rotL r (restL d.rows) ++ altL d.rows)
    rw [show (" " : Str).length = 1 from rfl] at this
    omega
  have h3 : (if opt then "OPTIONAL " else "" : Str).length ≤ 9 := by cases opt <;> decide +kernel
  unfold selTxt
  rw [Str.length_append, Str.length_append, Str.length_append, Str.length_append, Str.length_append, show ("SELECT " : Str).length = 7 from rfl, show (" " : Str).length = 1 from rfl, show (" . " : Str).length = 3 from rfl]
  omega
/-- what law has gathered: the texts and the dues -/
structure Acc (h : Heap) (L tp : Addr) (ls : List (Str × Value)) (l : List SelD) : Prop where
  texts : ∃ tx t, look ls "texts" = some (.str tx t) ∧ W tx (selsWs 0 l) ∧ tx.length ≤ 5000 * l.length
  dues : ∃ dl vs, look ls "dues" = some (.ref dl) ∧ h.PlainList dl vs.toArray ∧ ToldL h vs (selsS 0 l) ∧ dl ≠ L ∧ dl ≠ tp
  ok : ∀ s ∈ l, s.Ok
theorem te_dict {h h' : Heap} {L : Addr} (x : Ext [L] h h') (hD : isDict h L) : TE h h' := fun b o items n e c d => x b o e (nin1 (by
  rintro rfl
  obtain ⟨o', es, ep, e', d'⟩ := hD
  rw [e] at e'; cases e'
  rw [d] at d'; cases d'))
theorem te_list {h h' : Heap} {l : Addr} {its : Array Value} (x : Ext [l] h h') (P : h.IsList l its) : TE h h' := fun b o items n e c d => x b o e (nin1 (by
  rintro rfl
  obtain ⟨o', e', c', _⟩ := P
  rw [e] at e'; cases e'
  rw [c] at c'
  exact absurd (Value.type.inj c') (by decide)))
theorem te_range {h h' : Heap} {it : Addr} {a b c : Int} (x : Ext [it] h h') (R : IsRangeIter h it a b c) : TE h h' := fun y o items n e cc d => x y o e (nin1 (by
  rintro rfl
  rw [show h.get? _ = some _ from R] at e; cases e
  cases d))
section
variable {h h' : Heap} {L tp : Addr} {ls : List (Str × Value)} {l : List SelD}
theorem Acc.dict (S : Acc h L tp ls l) (x : Ext [L] h h') (hD : isDict h L) : Acc h' L tp ls l :=
  ⟨S.texts, let ⟨dl, vs, a, b, c, d, e⟩ := S.dues; ⟨dl, vs, a, pl_ext b x (nin1 d), c.te (te_dict x hD), d, e⟩, S.ok⟩
theorem Acc.tape (S : Acc h L tp ls l) (x : Ext [tp] h h') {k} (T : Tape h tp k) : Acc h' L tp ls l :=
  let ⟨_, P⟩ := T.list
  ⟨S.texts, let ⟨dl, vs, a, b, c, d, e⟩ := S.dues; ⟨dl, vs, a, pl_ext b x (nin1 e), c.te (te_list x P), d, e⟩, S.ok⟩
theorem Acc.keep (S : Acc h L tp ls l) (x : Ext [] h h') : Acc h' L tp ls l :=
  ⟨S.texts, let ⟨dl, vs, a, b, c, d, e⟩ := S.dues; ⟨dl, vs, a, pl_ext b x nil_not, c.te x.te, d, e⟩, S.ok⟩
theorem Acc.iter (S : Acc h L tp ls l) {it : Addr} {a b c : Int} (x : Ext [it] h h') (R : IsRangeIter h it a b c) : Acc h' L tp ls l :=
  ⟨S.texts, let ⟨dl, vs, a, b, c, d, e⟩ := S.dues; ⟨dl, vs, a, pl_ext b x (nin1 (ri_list R (pl_isList b))), c.te (te_range x R), d, e⟩, S.ok⟩
theorem Acc.put (S : Acc h L tp ls l) {x : Str} {v : Value} (e : Ext [L] h h') (hD : isDict h L) (h1 : (("texts" : Str) == x) = false := by decide +kernel) (h2 : (("dues" : Str) == x) = false := by decide +kernel) : Acc h' L tp ((x, v) :: ls) l :=
  ⟨let ⟨tx, t, a, b⟩ := S.texts; ⟨tx, t, look_skip a h1, b⟩, let ⟨dl, vs, a, b, c, d, e'⟩ := S.dues; ⟨dl, vs, look_skip a h2, pl_ext b e (nin1 d), c.te (te_dict e hD), d, e'⟩, S.ok⟩
end
theorem selsS_len : ∀ (i : Nat) (l : List SelD), (selsS i l).length = l.length
  | _, [] => rfl
  | i, _ :: l => by show (selsS (i + 1) l).length + 1 = l.length + 1; rw [selsS_len (i + 1) l]
section
variable {w : World} {A : Around} {K : Flow → Shared → Prop} {E : Value → Shared → Prop} {σ : Shared} {h0 hz h h' : Heap} {L tp : Addr} {ls : List (Str × Value)} {k : Nat}
theorem LawS.iter {it : Addr} {a b c : Int} (S : LawS w σ h0 L hz h tp ls k) (x : Ext [it] h h') (R : IsRangeIter h it a b c) (hit : L + 1 < it) : LawS w σ h0 L hz h' tp ls k := by
  obtain ⟨v, cc⟩ := S.cell
  refine ⟨S.B.ext x (fun y m => one_mem m (.inr (Nat.lt_of_succ_lt hit))), ?_, S.tape, S.tL, v, cell_ext cc x (nin1 (Nat.ne_of_lt hit))⟩
  obtain ⟨cl, t, items, p, q, r⟩ := S.T
  exact ⟨cl, t, items, il_ext p x (nin1 (ri_list R p)), il_ext q x (nin1 (ri_list R q)), r⟩
theorem cut_sel {Q : Value → Shared → Prop} {xp ap fp cp sp np bp pos : Pos} {i : Nat} {u tk : Tok} (S : LawS w σ h0 L hz h tp ls k) (hi : i < 3) (hk : k ≤ 10000) (ok : Ok A 4) (hs : look ls "spot" = some (.int (i : Int) u))
    (next : ∀ a b d r opt tt h' tk' k', d.Ok → r < (restL d.rows).length → IsTup h' a [Value.str (selTxt (nmI i) d.rows r opt) tt, .ref b].toArray → Told h' b (selSpec (nmI i) d) → LawS w σ h0 L hz h' tp ls k' → Ext [tp] h h' → k' ≤ k + 40 → Q (.ref a) (St σ h' tk'))
    (he : starEach [.Name "tape" ap, .BinOp (.Constant (.str "F") 0 fp) .Add (.Call (.Name "str" sp) [.Name "spot" np] [] cp) bp] (eW L) = [(false, eval (.Name "tape" ap) (eW L)), (false, eval (.BinOp (.Constant (.str "F") 0 fp) .Add (.Call (.Name "str" sp) [.Name "spot" np] [] cp) bp) (eW L))] := by rfl)
    (he2 : starEach [.BinOp (.Constant (.str "F") 0 fp) .Add (.Call (.Name "str" sp) [.Name "spot" np] [] cp) bp] (eW L) = [(false, eval (.BinOp (.Constant (.str "F") 0 fp) .Add (.Call (.Name "str" sp) [.Name "spot" np] [] cp) bp) (eW L))] := by rfl)
    (hc : eval (.Call (.Name "_law_select" xp) [.Name "tape" ap, .BinOp (.Constant (.str "F") 0 fp) .Add (.Call (.Name "str" sp) [.Name "spot" np] [] cp) bp] [] pos) (eW L) = (do callWith pos (← eval (.Name "_law_select" xp) (eW L)) [] (backTo pos (starEach [.Name "tape" ap, .BinOp (.Constant (.str "F") 0 fp) .Add (.Call (.Name "str" sp) [.Name "spot" np] [] cp) bp] (eW L))) (backToKw pos (keywordEach [] (eW L)))) := by rfl)
    (hc2 : eval (.Call (.Name "str" sp) [.Name "spot" np] [] cp) (eW L) = (do callWith cp (← eval (.Name "str" sp) (eW L)) [] (backTo cp (starEach [.Name "spot" np] (eW L))) (backToKw cp (keywordEach [] (eW L)))) := by rfl) :
    wpAny (Mw w) A (eval (.Call (.Name "_law_select" xp) [.Name "tape" ap, .BinOp (.Constant (.str "F") 0 fp) .Add (.Call (.Name "str" sp) [.Name "spot" np] [] cp) bp] [] pos) (eW L)) Q E (St σ h tk) := by
  have hlog : ((i : Nat) : Int).natAbs.log2 < 1920 := by
    match i, hi with
    | 0, _ => decide
    | 1, _ => decide
    | 2, _ => decide
  have hj := jtxt_len3 i hi
  have ltp := S.tape
  refine f2X_ S.B (gl__law_select w) (kp__law_select w) (nX_ S.B (v := .ref tp) (wpAny_BinOp (wpAny_Constant_str (Call_ (bX_ S.B (gn_str w) (PyProof.Rows.callWith_type1 (args_cons (nX_ S.B (v := .int (i : Int) u) (args_nil (P.str_of_int hlog ?_)))))) hc2)))) (by walk_at "LOC") he he2 hc
  refine add_str (x := "F") (y := jtxt i) (fun t' tk' => ⟨⟨_, S.B.F⟩, ?_⟩) (by rw [sizeLine_eq, show ("F" : Str).length = 1 from rfl]; omega)
  rw [ftxt i hi]
  refine S.B.use (s := St σ h tk') (law_select_c S.B.G1 S.T (by omega) (nmI_len i)) (fun v h₁ tk₁ B₁ x₁ p => ?_) (hs := fun y m => one_mem m (.inr S.ltp))
  obtain ⟨a, b, d, r, opt, tt, k', rfl, hd, g, t, T, hk', hr⟩ := p
  exact next a b d r opt tt h₁ tk₁ k' hd hr g t (S.draw B₁ x₁ T) x₁ hk'
/-- the loop's body -/
theorem law_turn {tk : Tok} {i : Nat} {u : Tok} {l : List SelD} (S : LawS w σ h0 L hz h tp ls k) (C : Acc h L tp ls l) (hi : i < 3) (hl : l.length = i) (hk : k ≤ 10000) (ok : Ok A 4) (hs : look ls "spot" = some (.int (i : Int) u))
    (next : ∀ h' tk' ls' k' s, LawS w σ h0 L hz h' tp ls' k' → Acc h' L tp ls' (l ++ [s]) → k' ≤ k + 40 → Ext [L, tp] h h' → K .next (St σ h' tk')) :
    ∀ {px it pt body}, (b_408.drop 2).head? = some (.For (.Name "spot" px) it body [] pt) → wpAny (Mw w) A (execs body (eW L)) K E (St σ h tk) := by
  intro px it pt body e1
  cases e1
  refine wpAny_execs_cons (Assign_Tuple (cut_sel S hi hk ok hs fun a b d r opt tt h₁ tk₁ k₁ hd hr g t S₁ x₁ hk₁ => ?_))
  have C₁ := C.tape x₁ S.T
  refine assign_Tuple_tuple ok.hd g rfl rfl fun h₂ he => ?_
  have x₂ : Ext [] h₁ h₂ := fun b o e _ => he b o (Nat.ne_of_lt (Heap.lt_size e)) e
  have S₂ := S₁.keep x₂
  have C₂ := C₁.keep x₂
  have t₂ := t.te x₂.te
  refine assignInOrder_cons (PyProof.Rows.assign_Name (sX_ S₂.B fun h₃ tk₃ B₃ x₃ => assignInOrder_cons (PyProof.Rows.assign_Name (sX_ B₃ fun h₄ tk₄ B₄ x₄ => assignInOrder_nil ?_))))
  have S₃ := S₂.put B₃ x₃
  have C₃ := C₂.put (x := "text") (v := .str (selTxt (nmI i) d.rows r opt) tt) x₃ S₂.B.isDict
  have t₃ := t₂.te (te_dict x₃ S₂.B.isDict)
  have S₄ := S₃.put B₄ x₄
  have C₄ := C₃.put (x := "due") (v := .ref b) x₄ S₃.B.isDict
  have t₄ := t₃.te (te_dict x₄ S₃.B.isDict)
  have l1 : look (("due", Value.ref b) :: ("text", .str (selTxt (nmI i) d.rows r opt) tt) :: ls) "text" = some (.str (selTxt (nmI i) d.rows r opt) tt) := look_skip (look_here _ _ _) (by decide +kernel)
  have l2 : look (("due", Value.ref b) :: ("text", .str (selTxt (nmI i) d.rows r opt) tt) :: ls) "due" = some (.ref b) := look_here _ _ _
  generalize (("due", Value.ref b) :: ("text", .str (selTxt (nmI i) d.rows r opt) tt) :: ls : List (Str × Value)) = ls₄ at *
  obtain ⟨tx, ttx, lt, hW, hlen⟩ := C₄.texts
  obtain ⟨dl, vs, ld, M, TL, hdL, hdt⟩ := C₄.dues
  have hsl := selTxt_len (nmI i) d r opt hd (nmI_len i)
  have hvl : vs.length ≤ 3 := by rw [TL.length]; have := selsS_len 0 l; omega
  have X0 : Ext [L, tp] h h₄ := by
    have y1 : Ext [L, tp] h h₁ := x₁.wide fun y m => one_mem m (.tail _ (.head _))
    have y2 : Ext [L, tp] h₁ h₂ := x₂.wide fun y m => nomatch m
    have y3 : Ext [L, tp] h₂ h₃ := x₃.wide fun y m => one_mem m (.head _)
    have y4 : Ext [L, tp] h₃ h₄ := x₄.wide fun y m => one_mem m (.head _)
    exact ((y1.trans y2).trans y3).trans y4
  refine wpAny_execs_cons (Assign_Tuple_swapped (wpAny_Tuple (args_cons (wpAny_BinOp (nX_ S₄.B (v := .str tx ttx) (nX_ S₄.B (v := .str (selTxt (nmI i) d.rows r opt) tt) (add_str (fun t5 k5 => ?_) (by rw [sizeLine_eq]; omega))))))))
  refine args_cons (wpAny_BinOp (nX_ S₄.B (v := .ref dl) (wpAny_List (args_cons (nX_ S₄.B (v := .ref b) (args_nil ⟨szl rfl, ?_⟩))))))
  have M5 := pl_push h₄ [Value.ref b]
  generalize ho1 : ({ cls := .type "list", data := .seq [Value.ref b].toArray } : Obj) = o1 at *
  have x5 : Ext [] h₄ (h₄.push o1) := Ext.push _ _
  have S₅ := S₄.keep x5
  have Md := pl_ext M x5 nil_not
  refine addl_ (s := St σ (h₄.push o1) k5) S₅.B (pl_isList Md) (pl_isList M5) (fun a2 h₆ tk₆ B₆ x₆ f₆ M₆ => args_nil ⟨szl rfl, ?_⟩) (by simp; omega)
  have S₆ := S₅.dict B₆ x₆
  have T₆ : ToldL h₆ (vs ++ [Value.ref b]) (selsS 0 (l ++ [⟨d, r, opt⟩])) := by
    rw [selsS_snoc, Nat.zero_add, hl]
    exact (((TL.te x5.te).snoc (t₄.te x5.te)).te (te_dict x₆ S₅.B.isDict))
  have ha2L : a2 ≠ L := by obtain ⟨o, _, _, e, _⟩ := S₅.B.F.ns; exact fresh_ne (h := h₄.push o1) f₆ e
  have ha2t : a2 ≠ tp := by obtain ⟨_, o, e, _⟩ := S₅.T.list; exact fresh_ne (h := h₄.push o1) f₆ e
  have hW2 : W (tx ++ selTxt (nmI i) d.rows r opt) (selsWs 0 (l ++ [⟨d, r, opt⟩])) := by
    rw [selsWs_snoc, Nat.zero_add, hl]
    exact hW.app (selTxt_W (nmI i) d r opt hr)
  have X1 : Ext [L, tp] h h₆ := (X0.trans (x5.wide fun y m => nomatch m)).trans (x₆.wide fun y m => one_mem m (.head _))
  have ok2 : ∀ s ∈ l ++ [(⟨d, r, opt⟩ : SelD)], s.Ok := fun s m => by
    rcases List.mem_append.mp m with m | m
    · exact C.ok s m
    · rcases List.mem_cons.mp m with rfl | m
      · exact ⟨hd, hr⟩
      · cases m
  have hl2 : (tx ++ selTxt (nmI i) d.rows r opt).length ≤ 5000 * (l ++ [(⟨d, r, opt⟩ : SelD)]).length := by
    rw [Str.length_append, List.length_append, List.length_singleton]; omega
  generalize tx ++ selTxt (nmI i) d.rows r opt = tx2 at *
  generalize hln : l ++ [(⟨d, r, opt⟩ : SelD)] = ln at *
  generalize ho2 : ({ cls := .type "tuple", data := .seq [Value.str tx2 t5, .ref a2].toArray } : Obj) = o2
  have T2 : IsTup (h₆.push o2) h₆.objs.size [Value.str tx2 t5, .ref a2].toArray := ⟨o2, Heap.get?_push_size _ (by rw [← ho2]; rfl), by rw [← ho2], 0, by rw [← ho2]⟩
  have x7 : Ext [] h₆ (h₆.push o2) := Ext.push _ _
  have S₇ := S₆.keep x7
  have M₇ := pl_ext M₆ x7 nil_not
  have T₇ := T₆.te x7.te
  have X2 := X1.trans (x7.wide fun y m => nomatch m)
  generalize h₆.objs.size = td at *
  generalize h₆.push o2 = h₇ at *
  show wpAny _ _ (unpackItems (.ref td) 2 none) _ _ _
  refine unpackItems_tuple (items := [Value.str tx2 t5, .ref a2].toArray) ok.hd T2 fun h₈ he => ?_
  have x8 : Ext [] h₇ h₈ := fun b o e _ => he b o (Nat.ne_of_lt (Heap.lt_size e)) e
  have S₈ := S₇.keep x8
  have M₈ := pl_ext M₇ x8 nil_not
  have T₈ := T₇.te x8.te
  refine assignInOrder_cons (bindName_ (sX_ S₈.B fun h₉ tk₉ B₉ x₉ => assignInOrder_cons (bindName_ (sX_ B₉ fun h₃ tk₃ B₃ x₃ => assignInOrder_nil (wpAny_execs_nil ?_)))))
  have S₉ := S₈.put B₉ x₉
  have Sf := S₉.put B₃ x₃
  have Mf := pl_ext (pl_ext M₈ x₉ (nin1 ha2L)) x₃ (nin1 ha2L)
  have Tf := (T₈.te (te_dict x₉ S₈.B.isDict)).te (te_dict x₃ S₉.B.isDict)
  have L1 : ∀ {y : Addr}, y ∈ [L] → y ∈ [L, tp] := fun m => one_mem m (.head _)
  subst hln
  refine next h₃ tk₃ _ k₁ ⟨d, r, opt⟩ Sf ⟨⟨tx2, t5, look_here _ _ _, hW2, hl2⟩, ⟨a2, _, look_skip (look_here _ _ _) (by decide +kernel), by simpa using Mf, Tf, ha2L, ha2t⟩, ok2⟩ hk₁ (((X2.trans (x8.wide fun y m => nomatch m)).trans (x₉.wide fun y m => L1 m)).trans (x₃.wide fun y m => L1 m))
end
section
variable {w : World} {A : Around} {K : Flow → Shared → Prop} {E : Value → Shared → Prop} {σ : Shared} {h0 hz h h' : Heap} {L tp : Addr} {ls : List (Str × Value)} {k : Nat}
theorem law2 {tk : Tok} (S : LawS w σ h0 L hz h tp ls k) (C : Acc h L tp ls []) (hk : k ≤ 100) (ok : Ok A 4)
    (next : ∀ h' tk' ls' k' l, LawS w σ h0 L hz h' tp ls' k' → Acc h' L tp ls' l → l.length ≤ 3 → k' ≤ 1000 → wpAny (Mw w) A (execs (b_408.drop 3) (eW L)) K E (St σ h' tk')) :
    wpAny (Mw w) A (execs (b_408.drop 2) (eW L)) K E (St σ h tk) := by
  have ltp := S.tape
  refine wpAny_execs_cons (wpAny_For (Call_ (bX_ S.B (gn_range w) (PyProof.Rows.callWith_type1 (args_cons (drawX_ S.B S.T (by omega) (fun j t₁ h₁ tk₁ B₁ x₁ T₁ j1 j2 => args_nil (call_range_1 ?_)) (.inr S.ltp)))))))
  have S₁ := S.draw B₁ x₁ T₁
  have C₁ := C.tape x₁ S.T
  obtain ⟨n, rfl⟩ := Int.eq_ofNat_of_zero_le j1
  have hn : n < 4 := by omega
  obtain ⟨hs1, hs2⟩ := range_sz4 n hn
  generalize hro : ({ cls := .type "range", data := .fields #[.int 0 tk₁, .int (n : Int) t₁, .int 1 (tk₁ + 1)] } : Obj) = ro
  have S₂ := S₁.keep (Ext.push h₁ ro)
  have C₂ := C₁.keep (Ext.push h₁ ro)
  have hR : IsRange (h₁.push ro) h₁.objs.size 0 (n : Int) 1 tk₁ t₁ (tk₁ + 1) := by rw [← hro]; exact Heap.get?_push_size _ rfl
  refine wpAny_pyIter_range hR hs2 ?_
  rw [hs1]
  generalize hio : ({ cls := .type "range_iterator", data := .fields #[rawInt 0, rawInt (n : Int), rawInt 1] } : Obj) = io
  have S₃ := S₂.keep (Ext.push (h₁.push ro) io)
  have C₃ := C₂.keep (Ext.push (h₁.push ro) io)
  have hit0 : IsRangeIter ((h₁.push ro).push io) (h₁.push ro).objs.size 0 (n : Int) 1 := by rw [← hio]; exact Heap.get?_push_size _ rfl
  obtain ⟨cv, hcell⟩ := S₂.cell
  have hLit0 : L + 1 < (h₁.push ro).objs.size := cell_lt hcell
  generalize (h₁.push ro).push io = h₃ at *
  generalize (h₁.push ro).objs.size = it at *
  have htit : tp ≠ it := by obtain ⟨_, a⟩ := S₃.T.list; exact ri_list hit0 a
  have hLit : L ≠ it := Nat.ne_of_lt (Nat.lt_of_succ_lt hLit0)
  refine for_range (σ := σ) (it := it) (fun i h' => ∃ ls' k' l, LawS w σ h0 L hz h' tp ls' k' ∧ Acc h' L tp ls' l ∧ l.length = i ∧ k' ≤ k + 1 + 40 * i ∧ IsRangeIter h' it (i : Int) ((n : Int) - (i : Int)) 1) n ok.hd
    ⟨ls, k + 1, [], S₃, C₃, rfl, by omega, by simpa using hit0⟩ fun i h₈ tk₈ P hi => ?_
  obtain ⟨ls', k', l, S₈, C₈, hl, hk', hit8⟩ := P
  refine ⟨hit8, fun e h₉ x9 => next h₉ tk₈ ls' k' l (S₈.iter x9 hit8 hLit0) (C₈.iter x9 hit8) (by omega) (by omega), fun u E' hlt h₉ x9 hit9 => ?_⟩
  have S₉ := S₈.iter x9 hit8 hLit0
  have C₉ := C₈.iter x9 hit8
  refine sX_ S₉.B fun h₄ tk₄ B₄ x₄ => ?_
  have S₄ := S₉.put B₄ x₄
  have C₄ := C₉.put (x := "spot") (v := .int (i : Int) u) x₄ S₉.B.isDict
  have hit4 : IsRangeIter h₄ it _ _ _ := x₄ _ _ hit9 (nin1 (Ne.symm hLit))
  refine law_turn S₄ C₄ (by omega) hl (by omega) ok (look_here _ _ _) (fun h₅ tk₅ ls₅ k₅ s S₅ C₅ hk₅ x₅ => ?_) rfl
  refine ⟨by walk_at "SM", ls₅, k₅, l ++ [s], S₅, C₅, by simp [hl], by omega, x₅ _ _ hit4 fun m => ?_⟩
  rcases List.mem_cons.mp m with e | m
  · exact hLit e.symm
  · rcases List.mem_cons.mp m with e | m
    · exact htit e.symm
    · cases m
/-- text = 'ENVIRONMENT DIVISION . ' + .. -/
theorem law3 {tk : Tok} {l : List SelD} (S : LawS w σ h0 L hz h tp ls k) (C : Acc h L tp ls l) (hk : k ≤ 10000) (ok : Ok A 4)
    (next : ∀ h' tk' c t, LawS w σ h0 L hz h' tp (("text", .str (("ENVIRONMENT DIVISION . " : Str) ++ confS c) t) :: ls) (k + 1) → Acc h' L tp (("text", .str (("ENVIRONMENT DIVISION . " : Str) ++ confS c) t) :: ls) l → wpAny (Mw w) A (execs (b_408.drop 4) (eW L)) K E (St σ h' tk')) :
    wpAny (Mw w) A (execs (b_408.drop 3) (eW L)) K E (St σ h tk) := by
  have ltp := S.tape
  refine wpAny_execs_cons (asX (wpAny_BinOp (wpAny_Constant_str (pick2X_ (s := St σ h _) S.B S.T (by omega) (fun c t h₁ tk₁ B₁ x₁ T₁ => ?_) (.inr S.ltp)))))
  have S₁ := S.draw B₁ x₁ T₁
  have C₁ := C.tape x₁ S.T
  have hl : (if c then "CONFIGURATION SECTION . SOURCE-COMPUTER . ANY ONE . " else "" : Str).length ≤ 100 := by cases c <;> decide +kernel
  refine add_str (fun t2 k2 => ?_) (by rw [sizeLine_eq, show ("ENVIRONMENT DIVISION . " : Str).length = 23 from rfl]; omega)
  refine sX_ S₁.B fun h₂ tk₂ B₂ x₂ => next h₂ tk₂ c t2 (S₁.put B₂ x₂) (C₁.put x₂ S₁.B.isDict)
end
noncomputable def TxtOk (x : Str) (l : List SelD) : Prop := x.length ≤ 20000 ∧ ∃ ws, W x ws ∧ (∀ y ∈ ws, okw y) ∧ ∀ v, EnvR false ((ws ++ divW v).map tokOf) (selsS 0 l) ((divW v).map tokOf)
theorem W_nil {l : List SelD} (h : W "" (selsWs 0 l)) : l = [] := by
  cases l with
  | nil => rfl
  | cons s r =>
    have h : ([] : List Nat) = _ := h
    simp [selsWs, selWs] at h
theorem envS_W : W "ENVIRONMENT DIVISION . " envW := by show cds _ = _; decide +kernel
theorem ioS_W : W "INPUT-OUTPUT SECTION . FILE-CONTROL . " ioW := by show cds _ = _; decide +kernel
theorem env_w : ∀ y ∈ envW, okw y := by decide +kernel
theorem io_w : ∀ y ∈ ioW, okw y := by decide +kernel
theorem ctl_len (c : Bool) : (ctlS c).length ≤ 100 := by cases c <;> decide +kernel
theorem conf_len (c : Bool) : (confS c).length ≤ 100 := by cases c <;> decide +kernel
theorem div_len (c : Bool) : (divS c).length ≤ 100 := by cases c <;> decide +kernel
theorem txt_no (c : Bool) : TxtOk (("ENVIRONMENT DIVISION . " : Str) ++ confS c) [] := by
  refine ⟨?_, envW ++ confW c, envS_W.app (confS_W c), fun y m => ?_, fun v => env_noio c v⟩
  · have := conf_len c
    rw [Str.length_append, show ("ENVIRONMENT DIVISION . " : Str).length = 23 from rfl]; omega
  · rcases List.mem_append.mp m with m | m
    · exact env_w y m
    · exact conf_ok c y m
theorem txt_io {tx : Str} {l : List SelD} (c c2 : Bool) (hW : W tx (selsWs 0 l)) (ho : ∀ s ∈ l, s.Ok) (hl : l.length ≤ 3) (hx : tx.length ≤ 15000) :
    TxtOk (("ENVIRONMENT DIVISION . " : Str) ++ confS c ++ "INPUT-OUTPUT SECTION . FILE-CONTROL . " ++ tx ++ ctlS c2) l := by
  refine ⟨?_, envW ++ confW c ++ (ioW ++ selsWs 0 l ++ ctlW c2), ?_, fun y m => ?_, fun v => env_io l ho hl c c2 v⟩
  · have := conf_len c
    have := ctl_len c2
    rw [Str.length_append, Str.length_append, Str.length_append, Str.length_append, show ("ENVIRONMENT DIVISION . " : Str).length = 23 from rfl, show ("INPUT-OUTPUT SECTION . FILE-CONTROL . " : Str).length = 38 from rfl]; omega
  · have := (((envS_W.app (confS_W c)).app ioS_W).app hW).app (ctlS_W c2)
    simpa only [List.append_assoc] using this
  · rcases List.mem_append.mp m with m | m
    · rcases List.mem_append.mp m with m | m
      · exact env_w y m
      · exact conf_ok c y m
    · rcases List.mem_append.mp m with m | m
      · rcases List.mem_append.mp m with m | m
        · exact io_w y m
        · exact selsWs_ok l 0 y m
      · exact ctl_ok c2 y m
section
variable {w : World} {A : Around} {K : Flow → Shared → Prop} {E : Value → Shared → Prop} {σ : Shared} {h0 hz h h' : Heap} {L tp : Addr} {ls : List (Str × Value)} {k : Nat}
theorem law4 {tk t : Tok} {c : Bool} {l : List SelD} (S : LawS w σ h0 L hz h tp ls k) (C : Acc h L tp ls l) (hl : l.length ≤ 3) (hk : k ≤ 10000) (ok : Ok A 4) (ht : look ls "text" = some (.str (("ENVIRONMENT DIVISION . " : Str) ++ confS c) t))
    (next : ∀ h' tk' ls' k' tx t, LawS w σ h0 L hz h' tp ls' k' → Acc h' L tp ls' l → look ls' "text" = some (.str tx t) → TxtOk tx l → k' ≤ k + 2 → wpAny (Mw w) A (execs (b_408.drop 5) (eW L)) K E (St σ h' tk')) :
    wpAny (Mw w) A (execs (b_408.drop 4) (eW L)) K E (St σ h tk) := by
  have ltp := S.tape
  obtain ⟨txs, tt, lt, hW, hlen⟩ := C.texts
  refine wpAny_execs_cons (wpAny_If (mono_q (fun b s' => ∃ h' tk' k', s' = St σ h' tk' ∧ LawS w σ h0 L hz h' tp ls k' ∧ Acc h' L tp ls l ∧ k' ≤ k + 1 ∧ (b = false → l = [])) ?_ ?_))
  · refine isTrue_or (wpAny_isTrue_Compare1 (nX_ S.B (v := .str txs tt) (wpAny_Constant_str (ne_str (wpAny_truthy_bool ?_)))))
    cases hb : (txs != "") with
    | true => exact ⟨h, _, k, rfl, S, C, by omega, fun q => by cases q⟩
    | false =>
      have : txs = "" := by simpa using hb
      subst this
      refine isTrue_or (flipX_ (s := St σ h _) S.B S.T (by omega) (fun b h₁ tk₁ B₁ x₁ T₁ => ?_) (.inr S.ltp))
      have hn := W_nil hW
      cases b with
      | true => exact ⟨h₁, _, k + 1, rfl, S.draw B₁ x₁ T₁, C.tape x₁ S.T, by omega, fun q => by cases q⟩
      | false => exact isTrue_or_nil ⟨h₁, _, k + 1, rfl, S.draw B₁ x₁ T₁, C.tape x₁ S.T, by omega, fun _ => hn⟩
  · rintro b s' ⟨h₁, tk₁, k₁, rfl, S₁, C₁, hk₁, hb⟩
    cases b with
    | false =>
      cases hb rfl
      exact wpAny_execs_nil (next h₁ tk₁ ls k₁ _ t S₁ C₁ ht (txt_no c) (by omega))
    | true =>
      have h1 := conf_len c
      refine wpAny_execs_cons (asX (wpAny_BinOp (wpAny_BinOp (wpAny_BinOp (nX_ S₁.B (v := .str (("ENVIRONMENT DIVISION . " : Str) ++ confS c) t) (wpAny_Constant_str (add_str (fun t1 k1 => nX_ S₁.B (v := .str txs tt) (add_str (fun t2 k2 => pick2X_ (s := St σ h₁ k2) S₁.B S₁.T (by omega) (fun c2 t3 h₂ tk₂ B₂ x₂ T₂ => ?_) (.inr S.ltp)) ?_)) ?_)))))))
      · have S₂ := S₁.draw B₂ x₂ T₂
        have C₂ := C₁.tape x₂ S₁.T
        have h2 := ctl_len c2
        have h2 : (if c2 then "I-O-CONTROL . SAME AREA FOR F0 F1 . " else "" : Str).length ≤ 100 := h2
        refine add_str (fun t4 k4 => ?_) ?_
        · refine sX_ (s := St σ h₂ k4) S₂.B fun h₃ tk₃ B₃ x₃ => wpAny_execs_nil ?_
          exact next h₃ tk₃ _ (k₁ + 1) _ t4 (S₂.put B₃ x₃) (C₂.put x₃ S₂.B.isDict) (look_here _ _ _) (txt_io c c2 hW C.ok hl (by omega)) (by omega)
        · rw [sizeLine_eq, Str.length_append, Str.length_append, Str.length_append, show ("ENVIRONMENT DIVISION . " : Str).length = 23 from rfl, show ("INPUT-OUTPUT SECTION . FILE-CONTROL . " : Str).length = 38 from rfl]; omega
      · rw [sizeLine_eq, Str.length_append, Str.length_append, show ("ENVIRONMENT DIVISION . " : Str).length = 23 from rfl, show ("INPUT-OUTPUT SECTION . FILE-CONTROL . " : Str).length = 38 from rfl]; omega
      · rw [sizeLine_eq, Str.length_append, show ("ENVIRONMENT DIVISION . " : Str).length = 23 from rfl, show ("INPUT-OUTPUT SECTION . FILE-CONTROL . " : Str).length = 38 from rfl]; omega
end
/-- no object of the text's classes, nor a list, stands at y -/
structure Odd (h : Heap) (y : Addr) : Prop where
  inst : ∀ C d, h.get? y ≠ some (instObj C d)
  dict : ∀ es n fs, h.get? y = some (dictOf es n) → EsAre es fs → fs.lookup ("tape" : Str) ≠ none
  list : ∀ vs n, h.get? y ≠ some (W.listOf vs n)
  tup : ∀ o items n, h.get? y = some o → o.cls = .type "tuple" → o.data = .seq items n → False
theorem Odd.hide {h : Heap} {y : Addr} (O : Odd h y) (D : List Addr) : Odd (hideAll h D) y :=
  ⟨fun C d e => O.inst C d (of_hideAll _ e), fun es n fs e => O.dict es n fs (of_hideAll _ e), fun vs n e => O.list vs n (of_hideAll _ e), fun o items n e => O.tup o items n (of_hideAll _ e)⟩
theorem odd_cell {h : Heap} {c : Addr} {v} (P : h.IsCell c v) : Odd h c := by
  obtain ⟨o, e, d⟩ := P
  refine ⟨fun C d' q => ?_, fun es n fs q => ?_, fun vs n q => ?_, fun o' items n q _ d' => ?_⟩
  · rw [e] at q; cases q; cases d
  · rw [e] at q; cases q; cases d
  · rw [e] at q; cases q; cases d
  · rw [e] at q; cases q; rw [d] at d'; cases d'
theorem odd_frame {h : Heap} {L : Addr} {ls : List (Str × Value)} {v : Value} (N : h.Ns L (look ls)) (hv : look ls "tape" = some v) : Odd h L := by
  obtain ⟨o, es, ep, e, d, _, hf⟩ := N
  refine ⟨fun C d' q => ?_, fun es' n fs q H hn => ?_, fun vs n q => ?_, fun o' items n q _ d' => ?_⟩
  · rw [e] at q; cases q; cases d
  · rw [e] at q; cases q
    have d1 : es'.toArray = es := by
      have : Data.dict es'.toArray n = Data.dict es ep := d
      injection this
    have h1 := H.get ("tape" : Str)
    rw [hn] at h1
    have h2 := (hf ("tape" : Str)).trans hv
    rw [← d1] at h2
    unfold nsFind findBy at h2
    unfold getL at h1
    cases hq : es'.find? (·.key.isStr ("tape" : Str)) with
    | some e' => rw [hq] at h1; cases h1
    | none =>
      rw [List.find?_toArray, hq] at h2
      cases h2
  · rw [e] at q; cases q; cases d
  · rw [e] at q; cases q; rw [d] at d'; cases d'
theorem Inst.odd {h h' : Heap} {C x d : Addr} {fs} {D : List Addr} (I : Inst h C x d fs) (e : Ext D h h') (hD : ∀ y ∈ D, Odd h y) (hn : fs.lookup ("tape" : Str) = none := by rfl) : Inst h' C x d fs := by
  refine I.ext e (fun m => (hD x m).inst C d I.2.2.1) (fun m => ?_)
  obtain ⟨_, _, _, es, n, q, H⟩ := I
  exact (hD d m).dict es n fs q H hn
theorem te_odd {h h' : Heap} {D : List Addr} (e : Ext D h h') (hD : ∀ y ∈ D, Odd h y) : TE h h' := fun b o items n q c d => e b o q fun m => (hD b m).tup o items n q c d
theorem Toks.odd {h h' : Heap} {D : List Addr} {tl ts} (T : Toks h tl ts) (e : Ext D h h') (hD : ∀ y ∈ D, Odd h y) : Toks h' tl ts :=
  ⟨T.hi, T.few, let ⟨n, q⟩ := T.li; ⟨n, e _ _ q fun m => (hD tl m).list _ _ q⟩, fun p m => let ⟨d, t1, t2, atv, b, I, hh⟩ := T.tk p m; ⟨d, t1, t2, atv, b, I.odd e hD, hh⟩, T.sh⟩
theorem Rd.odd {h h' : Heap} {D : List Addr} {r d tl : Addr} {ts rem} (R : Rd h r d tl ts rem) (e : Ext D h h') (hD : ∀ y ∈ D, Odd h y) : Rd h' r d tl ts rem :=
  let ⟨k, ⟨t, nm, I⟩, b⟩ := R; ⟨k, ⟨t, nm, I.odd e hD⟩, b⟩
theorem SpecAt.odd {h h' : Heap} {D : List Addr} {sp sd : Addr} {S : Spec} (P : SpecAt h sp sd S) (e : Ext D h h') (hD : ∀ y ∈ D, Odd h y) : SpecAt h' sp sd S := by
  obtain ⟨t1, t2, t3, t4, t5, t6, t7, al, rc, I, ⟨vs, ga, pa⟩, b⟩ := P
  exact ⟨t1, t2, t3, t4, t5, t6, t7, al, rc, I.odd e hD, ⟨vs, tup_te ga (te_odd e hD), pa.te (te_odd e hD)⟩, tup_te b (te_odd e hD)⟩
theorem FoundIs.odd {h h' : Heap} {D : List Addr} {fd : Addr} {kvs Ss} (F : FoundIs h fd kvs Ss) (e : Ext D h h') (hD : ∀ y ∈ D, Odd h y) : FoundIs h' fd kvs Ss := by
  induction F with
  | nil => exact .nil
  | cons p l _ ih => exact .cons (p.odd e hD) l ih
theorem hide_ext {h h' : Heap} {D E : List Addr} (x : Ext D h h') : Ext D (hideAll h E) (hideAll h' E) := fun b o e n => by
  have hn : b ∉ E := fun m => by rw [hideAll_none _ m] at e; cases e
  exact hideAll_get _ (x b o (of_hideAll _ e) n) hn
/-- the reader that law has made -/
structure Rdr (h : Heap) (L r d tl : Addr) (ts : List (Addr × Tk)) (rem : List Tk) : Prop where
  R : Rd h r d tl ts rem
  T : Toks (hideAll h [d]) tl ts
  lt : L + 1 < d
  ne : 0 < ts.length
theorem Rdr.odd {h h' : Heap} {D : List Addr} {L r d tl : Addr} {ts rem} (R : Rdr h L r d tl ts rem) (e : Ext D h h') (hD : ∀ y ∈ D, Odd h y) : Rdr h' L r d tl ts rem :=
  ⟨R.R.odd e hD, R.T.odd (hide_ext e) fun y m => (hD y m).hide _, R.lt, R.ne⟩
section
variable {w : World} {σ : Shared} {h0 hz h h' : Heap} {L tp : Addr} {ls : List (Str × Value)} {k : Nat}
theorem LawS.oddL (S : LawS w σ h0 L hz h tp ls k) : ∀ y ∈ [L], Odd h y := fun y m => by
  rcases List.mem_cons.mp m with rfl | m
  · exact odd_frame S.B.F.ns S.tape
  · cases m
end
theorem CallsB.no {w n f args D h post bad} (C : CallsB w n f args D h post bad) (hb : ¬bad) : Calls w n f args D h post := fun A s R hs ok kk => C A s R hs ok kk fun b => absurd b hb
section
variable {w : World} {A : Around} {K : Flow → Shared → Prop} {E : Value → Shared → Prop} {σ : Shared} {h0 hz h h' : Heap} {L tp : Addr} {ls : List (Str × Value)} {k : Nat}
theorem Bd.extD {D : List Addr} (B : Bd w D σ h0 L hz h ls) {d : Addr} (x : Ext [d] h h') (hd : L < d) : Bd w D σ h0 L hz h' ls := B.ext x fun y m => one_mem m (.inr hd)
/-- reader = Reader(_law_tokens(text + ..)) -/
theorem law5 {tk t : Tok} {tx : Str} {l : List SelD} (S : LawS w σ h0 L hz h tp ls k) (C : Acc h L tp ls l) (hk : k ≤ 10000) (ok : Ok A 11) (ht : look ls "text" = some (.str tx t)) (htx : TxtOk tx l)
    (next : ∀ h' tk' k' r d tl ts ws v, LawS w σ h0 L hz h' tp (("reader", .ref r) :: ls) k' → Acc h' L tp (("reader", .ref r) :: ls) l → Rdr h' L r d tl ts ((ws ++ divW v).map tokOf) → EnvR false ((ws ++ divW v).map tokOf) (selsS 0 l) ((divW v).map tokOf) → wpAny (Mw w) A (execs (b_408.drop 6) (eW L)) K E (St σ h' tk')) :
    wpAny (Mw w) A (execs (b_408.drop 5) (eW L)) K E (St σ h tk) := by
  have ltp := S.tape
  obtain ⟨hxl, ws, hW, hw, hE⟩ := htx
  refine wpAny_execs_cons (asX (f1X_ S.B (gl_Reader w) (kc_Reader w) (f1X_ S.B (gl__law_tokens w) (kp__law_tokens w) (wpAny_BinOp (nX_ S.B (v := .str tx t) (pick2X_ S.B S.T (by omega) (fun c t1 h₁ tk₁ B₁ x₁ T₁ => ?_) (.inr S.ltp)))))))
  have S₁ := S.draw B₁ x₁ T₁
  have C₁ := C.tape x₁ S.T
  have hdl := div_len c
  have hdl : (if c then "PROCEDURE DIVISION" else "DATA DIVISION" : Str).length ≤ 100 := hdl
  refine add_str (fun t2 k2 => ⟨⟨_, S₁.B.F⟩, ?_⟩) (by rw [sizeLine_eq]; omega)
  have hJ : J (tx ++ divS c) (ws ++ divW c) := hW.fin (divS_J c)
  have hwc : ∀ y ∈ ws ++ divW c, okw y := fun y m => by
    rcases List.mem_append.mp m with m | m
    · exact hw y m
    · exact div_ok c y m
  refine Bd.use (s := St σ h₁ k2) S₁.B (law_tokens_c S₁.B.G1 (split_J hJ fun x m => (hwc x m).2) (by show (tx ++ divS c).length ≤ _; rw [Str.length_append]; have := div_len c; omega) fun x m => (hwc x m).1) (fun v h₂ tk₂ B₂ x2 p => ?_) (hs := fun _ m => nomatch m)
  obtain ⟨tl, ts, rfl, htl, T₂, hts⟩ := p
  have S₂ := S₁.keep x2
  have C₂ := C₁.keep x2
  refine ⟨⟨_, B₂.F⟩, ?_⟩
  refine make_ (post := fun x dx h' => RD h' x dx tl 0) B₂ (mk_Reader w) (in_Reader w) (ft_Reader w) (fun x dx h' G' x' I => reader_init_c G' I) fun r d h₃ tk₃ B₃ x3 hd hr R₃ => ?_
  have S₃ := S₂.keep x3
  have C₃ := C₂.keep x3
  obtain ⟨cv, hcell⟩ := S₂.cell
  have hLd : L + 1 < d := Nat.lt_of_lt_of_le (cell_lt hcell) hd
  have hR : Rd h₃ r d tl ts ((ws ++ divW c).map tokOf) := ⟨0, R₃, by rw [← hts]; rfl, Nat.zero_le _⟩
  have hT : Toks (hideAll h₃ [d]) tl ts := T₂.keeps fun b o e => hideAll_get _ (x3.keeps b o e) (nin1 (Nat.ne_of_lt (Nat.lt_of_lt_of_le (Heap.lt_size e) hd)))
  have hne : 0 < ts.length := by
    have := congrArg List.length hts
    rw [List.length_map, List.length_map] at this
    rw [this]
    exact List.length_pos_iff.mpr hJ.1
  have Rr : Rdr h₃ L r d tl ts ((ws ++ divW c).map tokOf) := ⟨hR, hT, hLd, hne⟩
  refine sX_ (s := St σ h₃ tk₃) B₃ fun h₄ tk₄ B₄ x₄ => ?_
  exact next h₄ tk₄ _ r d tl ts ws c (S₃.put B₄ x₄) (C₃.put x₄ S₃.B.isDict) (Rr.odd x₄ S₃.oddL) (hE c)
/-- found = read_environment(reader) -/
theorem law6 {tk : Tok} {l : List SelD} {r d tl : Addr} {ts : List (Addr × Tk)} {rem rem' : List Tk} (S : LawS w σ h0 L hz h tp ls k) (C : Acc h L tp ls l) (R : Rdr h L r d tl ts rem) (hE : EnvR false rem (selsS 0 l) rem') (ok : Ok A 11) (hr : look ls "reader" = some (.ref r))
    (next : ∀ h' tk' fd kvs, LawS w σ h0 L hz h' tp ls k → Acc h' L tp ls l → Rdr h' L r d tl ts rem' → h'.IsCell (L + 1) (some (.ref fd)) → DictS w h' fd kvs → FoundIs h' fd kvs (selsS 0 l) → L + 1 < fd → wpAny (Mw w) A (execs (b_408.drop 7) (eW L)) K E (St σ h' tk')) :
    wpAny (Mw w) A (execs (b_408.drop 6) (eW L)) K E (St σ h tk) := by
  have hLd : L < d := Nat.lt_of_succ_lt R.lt
  refine wpAny_execs_cons (asX (f1X_ S.B (gl_read_environment w) (kp_read_environment w) (nX_ S.B (v := .ref r) ⟨⟨_, S.B.F⟩, ?_⟩)))
  refine S.B.use (CallsB.no (read_env_b S.B.G1 R.R R.T R.ne hE) (by decide)) (fun v h₁ tk₁ B₁ x₁ p => ?_) (hs := fun y m => one_mem m (.inr hLd))
  obtain ⟨-, fd, kvs, rfl, hfd, R₁, F₁, FI₁⟩ := p
  have hD := R.R.isDict
  have S₁ : LawS w σ h0 L hz h₁ tp ls k := ⟨B₁, S.T.ext x₁ (one_dict hD), S.tape, S.tL, let ⟨v, c⟩ := S.cell; ⟨v, cell_ext c x₁ (nin1 (Nat.ne_of_lt R.lt))⟩⟩
  have C₁ : Acc h₁ L tp ls l := ⟨C.texts, let ⟨dl, vs, a, b, c, d, e⟩ := C.dues; ⟨dl, vs, a, pl_ext b x₁ (il_dict (pl_isList b) (one_dict hD)), c.te (te_dict x₁ hD), d, e⟩, C.ok⟩
  have Rr : Rdr h₁ L r d tl ts rem' := ⟨R₁, R.T.keeps fun b o e => hideAll_get _ (x₁ b o (of_hideAll _ e) fun m => by rw [hideAll_none _ m] at e; cases e) (fun m => by rw [hideAll_none _ m] at e; cases e), R.lt, R.ne⟩
  obtain ⟨cv0, hc0⟩ := S.cell
  have hLf : L + 1 < fd := Nat.lt_of_lt_of_le (cell_lt hc0) hfd
  obtain ⟨cv, hc⟩ := S₁.cell
  refine wpAny_storeName_cell rfl (by kernel_rfl) rfl hc fun h₂ hv hs => ?_
  have x₂ : Ext [L + 1] h₁ h₂ := fun b o e n => (hs.2 b fun q => n (q ▸ .head _)).trans e
  have od : ∀ y ∈ [L + 1], Odd h₁ y := fun y m => one_mem m (odd_cell hc)
  have nl : ∀ {a : Addr} {its : Array Value}, h₁.IsList a its → a ∉ [L + 1] := fun P => nin1 (by
    rintro rfl
    obtain ⟨o, e, d⟩ := hc
    obtain ⟨o', e', _, n, d'⟩ := P
    rw [e] at e'; cases e'
    rw [d] at d'; cases d')
  have S₂ : LawS w σ h0 L hz h₂ tp ls k := ⟨S₁.B.extD x₂ (Nat.lt_succ_self L), let ⟨cl, t, items, p, q, r⟩ := S₁.T; ⟨cl, t, items, il_ext p x₂ (nl p), il_ext q x₂ (nl q), r⟩, S₁.tape, S₁.tL, _, hv⟩
  have C₂ : Acc h₂ L tp ls l := ⟨C₁.texts, let ⟨dl, vs, a, b, c, d, e⟩ := C₁.dues; ⟨dl, vs, a, pl_ext b x₂ (nl (pl_isList b)), c.te (te_odd x₂ od), d, e⟩, C₁.ok⟩
  exact next h₂ _ fd kvs S₂ C₂ (Rr.odd x₂ od) hv (dicts_ext F₁ x₂ (nin1 (Nat.ne_of_gt hLf))) (FI₁.odd x₂ od) hLf
end
section
variable {w : World} {A : Around} {K : Flow → Shared → Prop} {E : Value → Shared → Prop} {s σ : Shared} {h0 hz h h' : Heap} {L tp : Addr} {ls : List (Str × Value)} {k : Nat}
theorem ne_lists {a b : Addr} {ys zs : Array Value} {Q : Value → Shared → Prop} (P : s.heap.IsList a ys) (P' : s.heap.IsList b zs) (hl : ys.size = zs.size) (hu : A.units < cLine)
    (he : ∀ (j : Nat) (x y : Value), ys[j]? = some x → zs[j]? = some y → SeqAt.EqAt A.in1 s x y true) (h : Q (.bool false) s) : wpAny (Mw w) A (compareOp .NotEq (.ref a) (.ref b)) Q E s := by
  have := SeqAt.RcNeAt.lists (e := fun _ => true) P P' hl hu fun j h1 h2 => he j _ _ (by simp [h1]) (by simp [h2])
  have e : (!(List.range ys.size).all fun _ => true) = false := by simp
  rw [e] at this
  exact cmp_ofNotEq (this _ _ _ _ h)
theorem strs_at {vs : List Value} {ys : List Str} (P : StrsAre vs ys) : ∀ (j : Nat) (v : Value), vs[j]? = some v → ∃ x t, v = .str x t ∧ ys[j]? = some x := by
  induction P with
  | nil => intro j v e; cases e
  | cons x t _ ih =>
    intro j v e
    cases j with
    | zero => cases e; exact ⟨_, _, rfl, rfl⟩
    | succ j => exact ih j v e
theorem law7 {tk : Tok} {l : List SelD} {fd r d tl : Addr} {kvs : List (Str × Value)} {ts : List (Addr × Tk)} {rem : List Tk} (S : LawS w σ h0 L hz h tp ls k) (C : Acc h L tp ls l) (R : Rdr h L r d tl ts rem) (c : h.IsCell (L + 1) (some (.ref fd))) (F : DictS w h fd kvs) (FI : FoundIs h fd kvs (selsS 0 l)) (hf : L + 1 < fd) (h409 : 409 ≤ L) (hl : l.length ≤ 3) (ok : Ok A 11)
    (next : ∀ h' tk', LawS w σ h0 L hz h' tp ls k → Rdr h' L r d tl ts rem → wpAny (Mw w) A (execs (b_408.drop 8) (eW L)) K E (St σ h' tk')) :
    wpAny (Mw w) A (execs (b_408.drop 7) (eW L)) K E (St σ h tk) := by
  have hlen := FI.length
  have hSl := selsS_len 0 l
  have hm : (fd == sysModules) = false := beq_eq_false_iff_ne.mpr fun e => absurd (Nat.lt_of_le_of_lt h409 (Nat.lt_of_succ_lt hf)) (by rw [e]; decide)
  have hfL : L < fd := Nat.lt_of_succ_lt hf
  have hun := ok.un
  obtain ⟨dl, vs, ld, M, TL, hdL, hdt⟩ := C.dues
  have hvl := TL.length
  refine wpAny_execs_cons (wpAny_If (isTrue_or (wpAny_isTrue_Compare1 (told_comp (s := St σ h tk) S.B c F FI (by omega) hm hfL (fun D h₁ tk₁ ys B₁ x₁ f₁ P₁ T₁ => nX_ B₁ (v := .ref dl) ?_))))) 
  have M₁ := pl_ext M x₁ nil_not
  have TL₁ := TL.te x₁.te
  have hy := T₁.length
  refine ne_lists (s := St σ h₁ tk₁) (pl_isList P₁) (pl_isList M₁) (by simp; simp at hy; omega) (by omega) (fun j x y e1 e2 => ?_) (wpAny_truthy_bool ?_)
  · have e1 : ys.toList[j]? = some x := by simpa using e1
    have e2 : vs[j]? = some y := by simpa using e2
    have hj : j < (selsS 0 l).length := by
      have := (List.getElem?_eq_some_iff.mp e2).1; omega
    obtain ⟨a, rfl, ta⟩ := T₁.at j x _ e1 (List.getElem?_eq_getElem hj)
    obtain ⟨b, rfl, tb⟩ := TL₁.at j y _ e2 (List.getElem?_eq_getElem hj)
    exact eq_told ta tb (by rw [units_in1]; omega)
  rw [if_neg (by decide)]
  have S₁ := S.keep x₁
  have R₁ := R.odd x₁ nil_mem
  have c₁ := cell_ext c x₁ nil_not
  have F₁ := dicts_ext F x₁ nil_not
  have FI₁ := FI.kp x₁
  refine isTrue_or (wpAny_isTrue_Compare1 (name_comp (s := St σ h₁ tk₁) S₁.B c₁ F₁ FI₁ (by omega) hm hfL (fun D2 h₂ tk₂ ys2 B₂ x₂ f₂ P₂ V₂ => ?_)))
  have S₂ := S₁.keep x₂
  refine due_comp (s := St σ h₂ tk₂) S₂.B (pl_ext M₁ x₂ nil_not) (TL₁.te x₂.te) (by omega) hdL (fun D3 h₃ tk₃ ys3 B₃ x₃ f₃ P₃ V₃ => ?_)
  have P₂' := pl_ext P₂ x₃ nil_not
  have l2 := strs_length V₂
  have l3 := strs_length V₃
  refine ne_lists (s := St σ h₃ tk₃) (pl_isList P₂') (pl_isList P₃) (by simp at l2 l3; omega) (by omega) (fun j x y e1 e2 => ?_) (wpAny_truthy_bool ?_)
  · obtain ⟨x1, t1, rfl, q1⟩ := strs_at V₂ j x (by simpa using e1)
    obtain ⟨x2, t2, rfl, q2⟩ := strs_at V₃ j y (by simpa using e2)
    rw [q1] at q2; cases q2
    exact eq_strs _ _ _
  rw [if_neg (by decide)]
  refine isTrue_or_nil ?_
  rw [if_neg (by decide)]
  exact wpAny_execs_nil (next h₃ tk₃ (S₂.keep x₃) ((R₁.odd x₂ nil_mem).odd x₃ nil_mem))
end
section
variable {w : World} {A : Around} {K : Flow → Shared → Prop} {E : Value → Shared → Prop} {s σ : Shared} {h0 hz h h' : Heap} {L tp r d tl : Addr} {ls : List (Str × Value)} {k : Nat} {ts : List (Addr × Tk)} {rem : List Tk}
theorem riswordX {y : Str} {Q : Value → Shared → Prop} {xp apos pos cp : Pos} {ck : Nat} (ws : List Str) (S : LawS w σ h0 L hz h tp ls k) (R : Rdr h L r d tl ts rem) {tk : Tok}
    (next : ∀ h' tk', LawS w σ h0 L hz h' tp ls k → Rdr h' L r d tl ts rem → Q (.bool (heads ws rem)) (St σ h' tk'))
    (ok : Ok A 3 := by walk_at "OK") (hw : Txt.split y " " = ws := by decide +kernel) (hy : y.length ≤ 1000 := by decide +kernel) (hl : ws.length ≤ 1000 := by decide +kernel)
    (hx : look ls "reader" = some (.ref r) := by walk_at "LK")
    (he : starEach [.Constant (.str y) ck cp] (eW L) = [(false, eval (.Constant (.str y) ck cp) (eW L))] := by rfl)
    (hc : eval (.Call (.Attribute (.Name "reader" xp) "is_word" apos) [.Constant (.str y) ck cp] [] pos) (eW L) = (do
      let ov ← eval (.Name "reader" xp) (eW L)
      standAt apos.atName
      let (g, first) ← holding [ov] (getMethod ov "is_word" (do return (← importBound (.Name "reader" xp) (eW L)).getD true))
      callWith pos g first (backTo pos (starEach [.Constant (.str y) ck cp] (eW L))) []) := by rfl) :
    wpAny (Mw w) A (eval (.Call (.Attribute (.Name "reader" xp) "is_word" apos) [.Constant (.str y) ck cp] [] pos) (eW L)) Q E (St σ h tk) := by
  obtain ⟨k', t, nm, I⟩ := R.R.inst
  refine MethodCall_ (nX_ S.B (v := .ref r) ?_) hc
  obtain ⟨es, n, I', H⟩ := I.at
  refine method_inst S.B.F S.B.G.X I' (ms_Reader_is_word w).hg (ms_Reader_is_word w).hf (ms_Reader_is_word w).ht (by rw [H.get]; rfl) ?_
  refine cw1X S.B.G (ms_Reader_is_word w).keep (wpAny_Constant_str ⟨⟨_, S.B.F⟩, ?_⟩) he
  refine Bd.use (s := St σ h (tk + 1)) S.B (is_word_r ws S.B.G1 R.R (R.T.keeps fun b o e => of_hideAll _ e) hw hy hl) (fun v h' tk' B' x' p => ?_) (by walk_at "SM") ok nil_mem
  subst p
  exact next h' tk' (S.keep x') (R.odd x' nil_mem)
theorem law8 {tk : Tok} {v : Bool} (S : LawS w σ h0 L hz h tp ls k) (R : Rdr h L r d tl ts ((divW v).map tokOf)) (hr : look ls "reader" = some (.ref r)) (ok : Ok A 11)
    (next : ∀ h' tk', LawS w σ h0 L hz h' tp ls k → wpAny (Mw w) A (execs (b_408.drop 9) (eW L)) K E (St σ h' tk')) :
    wpAny (Mw w) A (execs (b_408.drop 8) (eW L)) K E (St σ h tk) := by
  obtain ⟨d1, d2⟩ := div_heads v
  refine wpAny_execs_cons (wpAny_If (isTrue_and (isTrue_not (isTrue_plain (riswordX ["DATA", "DIVISION"] S R fun h₁ tk₁ S₁ R₁ => wpAny_truthy_bool ?_)))))
  rw [d1]
  cases v with
  | false => exact wpAny_execs_nil (next h₁ tk₁ S₁)
  | true =>
    refine isTrue_and (isTrue_not (isTrue_plain (riswordX ["PROCEDURE", "DIVISION"] S₁ R₁ fun h₂ tk₂ S₂ R₂ => wpAny_truthy_bool ?_)))
    rw [d2]
    exact wpAny_execs_nil (next h₂ tk₂ S₂)
theorem dat_J : J "DATA DIVISION ." ["DATA", "DIVISION", "."] := ⟨by decide, by decide +kernel⟩
theorem dat_w : ∀ y ∈ (["DATA", "DIVISION", "."] : List Str), okw y := by decide +kernel
theorem law9 {tk : Tok} (S : LawS w σ h0 L hz h tp ls k) (h409 : 409 ≤ L) (ok : Ok A 11)
    (next : ∀ h' tk', LawS w σ h0 L hz h' tp ls k → wpAny (Mw w) A (execs (b_408.drop 10) (eW L)) K E (St σ h' tk')) :
    wpAny (Mw w) A (execs (b_408.drop 9) (eW L)) K E (St σ h tk) := by
  have hun := ok.un
  refine wpAny_execs_cons (wpAny_If (wpAny_isTrue_Compare1 (f1X_ S.B (gl_read_environment w) (kp_read_environment w) (f1X_ S.B (gl_Reader w) (kc_Reader w) (f1X_ S.B (gl__law_tokens w) (kp__law_tokens w) (wpAny_Constant_str ⟨⟨_, S.B.F⟩, ?_⟩))))))
  refine Bd.use (s := St σ h (tk + 1)) S.B (law_tokens_c S.B.G1 (split_J dat_J fun x m => (dat_w x m).2) (by decide +kernel) fun x m => (dat_w x m).1) (fun v h₂ tk₂ B₂ x2 p => ?_) (hs := fun _ m => nomatch m)
  obtain ⟨tl, ts, rfl, htl, T₂, hts⟩ := p
  have S₂ := S.keep x2
  refine ⟨⟨_, B₂.F⟩, ?_⟩
  refine make_ (post := fun x dx h' => RD h' x dx tl 0) B₂ (mk_Reader w) (in_Reader w) (ft_Reader w) (fun x dx h' G' x' I => reader_init_c G' I) fun r d h₃ tk₃ B₃ x3 hd hr R₃ => ?_
  have S₃ := S₂.keep x3
  obtain ⟨cv, hcell⟩ := S₂.cell
  have hLd : L + 1 < d := Nat.lt_of_lt_of_le (cell_lt hcell) hd
  have hR : Rd h₃ r d tl ts ((["DATA", "DIVISION", "."] : List Str).map tokOf) := ⟨0, R₃, by rw [← hts]; rfl, Nat.zero_le _⟩
  have hT : Toks (hideAll h₃ [d]) tl ts := T₂.keeps fun b o e => hideAll_get _ (x3.keeps b o e) (nin1 (Nat.ne_of_lt (Nat.lt_of_lt_of_le (Heap.lt_size e) hd)))
  refine ⟨⟨_, B₃.F⟩, ?_⟩
  refine Bd.use (s := St σ h₃ tk₃) B₃ (read_env_none B₃.G1 hR hT (by kernel_rfl)) (fun v h₄ tk₄ B₄ x₄ p => ?_) (hs := fun y m => one_mem m (.inr (Nat.lt_of_succ_lt hLd)))
  obtain ⟨fd, rfl, hfd, -, F₄⟩ := p
  have hD := hR.isDict
  have S₄ : LawS w σ h0 L hz h₄ tp ls k := ⟨B₄, S₃.T.ext x₄ (one_dict hD), S₃.tape, S₃.tL, let ⟨v, c⟩ := S₃.cell; ⟨v, cell_ext c x₄ (nin1 (Nat.ne_of_lt hLd))⟩⟩
  refine wpAny_Dict_empty ?_
  have F₅ := dicts_ext F₄ (Ext.push h₄ { cls := .type "dict", data := .dict #[] }) nil_not
  have G₅ := dicts_new w h₄
  have S₅ := S₄.keep (Ext.push h₄ { cls := .type "dict", data := .dict #[] })
  have h9 : ∀ {a : Addr}, L < a → (a == sysModules) = false := fun {a} ha => beq_eq_false_iff_ne.mpr fun e => absurd (Nat.lt_of_le_of_lt h409 ha) (by rw [e]; decide)
  refine keq_ne (knd := strKind PR w) (r := true) (h9 ?_) (h9 ?_) F₅ G₅ (by omega) (fun _ => .nil) (wpAny_truthy_bool ?_)
  · exact Nat.lt_of_lt_of_le B₃.Llt hfd
  · exact B₄.Llt
  · exact wpAny_execs_nil (next _ tk₄ S₅)
end
section
variable {w : World} {A : Around} {K : Flow → Shared → Prop} {E : Value → Shared → Prop} {s σ : Shared} {h0 hz h h' : Heap} {L tp : Addr} {ls : List (Str × Value)} {k : Nat}
theorem law10 {tk : Tok} (S : LawS w σ h0 L hz h tp ls k) (h409 : 409 ≤ L) (stA : A.frames = some [eW L]) (ok : Ok A 11)
    (next : ∀ h' tk' ls', Bd w [] σ h0 L hz h' ls' → K (.ret (.bool true)) (St σ h' tk')) :
    wpAny (Mw w) A (execs (b_408.drop 10) (eW L)) K E (St σ h tk) := by
  have hun := ok.un
  refine wpAny_execs_cons (asX (wpAny_Tuple (args_cons (wpAny_Constant_str (args_cons (wpAny_Constant_str (args_cons (wpAny_Constant_str (args_cons (wpAny_Constant_str (args_cons (wpAny_Constant_str (args_nil ⟨szl rfl, ?_⟩)))))))))))))
  generalize ho1 : ({ cls := .type "tuple", data := .seq (List.toArray _) } : Obj) = o1
  obtain ⟨v1, V1, T1⟩ : ∃ v1, StrsAre v1 (badL.take 5) ∧ IsTup (h.push o1) h.objs.size v1.toArray := ⟨_, .cons _ _ (.cons _ _ (.cons _ _ (.cons _ _ (.cons _ _ .nil)))), o1, Heap.get?_push_size _ (by rw [← ho1]; rfl), by rw [← ho1], 0, by rw [← ho1]⟩
  clear ho1
  have S₁ := S.keep (Ext.push h o1)
  generalize h.push o1 = h₁ at *
  generalize h.objs.size = t1 at *
  refine sX_ (s := St σ h₁ _) S₁.B fun h₂ tk₂ B₂ x₂ => ?_
  have S₂ := S₁.put (x := "wrong") B₂ x₂
  have T1 := tup_ext T1 x₂ (one_dict S₁.B.isDict)
  refine wpAny_execs_cons (asX (wpAny_Tuple (args_cons (wpAny_Constant_str (args_cons (wpAny_Constant_str (args_cons (wpAny_Constant_str (args_cons (wpAny_Constant_str (args_cons (wpAny_Constant_str (args_nil ⟨szl rfl, ?_⟩)))))))))))))
  generalize ho2 : ({ cls := .type "tuple", data := .seq (List.toArray _) } : Obj) = o2
  obtain ⟨v2, V2, T2⟩ : ∃ v2, StrsAre v2 ((badL.drop 5).take 5) ∧ IsTup (h₂.push o2) h₂.objs.size v2.toArray := ⟨_, .cons _ _ (.cons _ _ (.cons _ _ (.cons _ _ (.cons _ _ .nil)))), o2, Heap.get?_push_size _ (by rw [← ho2]; rfl), by rw [← ho2], 0, by rw [← ho2]⟩
  clear ho2
  have S₃ := S₂.keep (Ext.push h₂ o2)
  have T1 := T1.push o2
  generalize h₂.push o2 = h₃ at *
  generalize h₂.objs.size = t2 at *
  refine sX_ (s := St σ h₃ _) S₃.B fun h₄ tk₄ B₄ x₄ => ?_
  have S₄ := S₃.put (x := "others") B₄ x₄
  have T1 := tup_ext T1 x₄ (one_dict S₃.B.isDict)
  have T2 := tup_ext T2 x₄ (one_dict S₃.B.isDict)
  refine wpAny_execs_cons (asX (wpAny_Tuple (args_cons (wpAny_Constant_str (args_cons (wpAny_Constant_str (args_cons (wpAny_Constant_str (args_nil ⟨szl rfl, ?_⟩)))))))))
  generalize ho3 : ({ cls := .type "tuple", data := .seq (List.toArray _) } : Obj) = o3
  obtain ⟨v3, V3, T3⟩ : ∃ v3, StrsAre v3 (badL.drop 10) ∧ IsTup (h₄.push o3) h₄.objs.size v3.toArray := ⟨_, .cons _ _ (.cons _ _ (.cons _ _ .nil)), o3, Heap.get?_push_size _ (by rw [← ho3]; rfl), by rw [← ho3], 0, by rw [← ho3]⟩
  clear ho3
  have S₅ := S₄.keep (Ext.push h₄ o3)
  have T1 := T1.push o3
  have T2 := T2.push o3
  generalize h₄.push o3 = h₅ at *
  generalize h₄.objs.size = t3 at *
  refine sX_ (s := St σ h₅ _) S₅.B fun h₆ tk₆ B₆ x₆ => ?_
  have S₆ := S₅.put (x := "more") B₆ x₆
  have T1 := tup_ext T1 x₆ (one_dict S₅.B.isDict)
  have T2 := tup_ext T2 x₆ (one_dict S₅.B.isDict)
  have T3 := tup_ext T3 x₆ (one_dict S₅.B.isDict)
  have V : StrsAre (v1 ++ v2 ++ v3) badL := strs_app (strs_app V1 V2) V3
  refine wpAny_execs_cons (wpAny_Return_some (wpAny_Compare1 (refused_comp (s := St σ h₆ tk₆) S₆.B T1 T2 T3 V stA h409 (fun D h₇ tk₇ B₇ P₇ => ?_) ok (by walk_at "SM") (look_skip (look_skip (look_here _ _ _) (by decide +kernel)) (by decide +kernel)) (look_skip (look_here _ _ _) (by decide +kernel)) (look_here _ _ _))))
  refine wpAny_List (args_nil ⟨Nat.zero_le _, ?_⟩)
  have P₈ := pl_ext P₇ (Ext.push h₇ { cls := .type "list", data := .seq ([] : List Value).toArray }) nil_not
  have P₉ := pl_push h₇ []
  have B₈ := B₇.push { cls := .type "list", data := .seq ([] : List Value).toArray }
  have := SeqAt.RcAt.lists (A := A) (s := St σ (h₇.push { cls := .type "list", data := .seq ([] : List Value).toArray }) tk₇) (e := fun _ => true) (pl_isList P₈) (pl_isList P₉) rfl (by omega) (fun j h1 _ => absurd h1 (Nat.not_lt_zero j))
  exact cmp_ofEq (this _ _ _ _ (next _ tk₇ _ B₈))
theorem law_body {tk : Tok} {sl : Addr} {vs : List Value} {cv : Option Value} (B : Bd w [] σ h0 L hz h [("script", .ref sl)]) (P : h.IsList sl vs.toArray) (I : ∀ v ∈ vs, ∃ k u, v = Value.int k u) (hn : vs.length ≤ 1000) (c : h.IsCell (L + 1) cv) (h409 : 409 ≤ L) (stA : A.frames = some [eW L]) (ok : Ok A 11)
    (next : ∀ h' tk' ls', Bd w [] σ h0 L hz h' ls' → K (.ret (.bool true)) (St σ h' tk')) :
    wpAny (Mw w) A (execs b_408 (eW L)) K E (St σ h tk) := by
  refine law0 B P I hn c h409 (ok.le (by decide)) fun tp h₁ tk₁ S₁ => ?_
  refine law1 S₁ (ok.le (by decide)) fun dl t h₂ tk₂ S₂ M₂ hdL hdt => ?_
  refine law2 S₂ ⟨⟨"", t, look_here _ _ _, W.nil, Nat.zero_le _⟩, ⟨dl, [], look_skip (look_here _ _ _) (by decide +kernel), M₂, .nil, hdL, hdt⟩, fun _ m => nomatch m⟩ (by decide) (ok.le (by decide)) fun h₃ tk₃ ls₃ k₃ l S₃ C₃ hl hk₃ => ?_
  refine law3 S₃ C₃ (by omega) (ok.le (by decide)) fun h₄ tk₄ c₄ t₄ S₄ C₄ => ?_
  refine law4 S₄ C₄ hl (by omega) (ok.le (by decide)) (look_here _ _ _) fun h₅ tk₅ ls₅ k₅ tx t₅ S₅ C₅ ht₅ htx hk₅ => ?_
  refine law5 S₅ C₅ (by omega) ok ht₅ htx fun h₆ tk₆ k₆ r d tl ts ws v S₆ C₆ R₆ E₆ => ?_
  refine law6 S₆ C₆ R₆ E₆ ok (look_here _ _ _) fun h₇ tk₇ fd kvs S₇ C₇ R₇ c₇ F₇ FI₇ hf => ?_
  refine law7 S₇ C₇ R₇ c₇ F₇ FI₇ hf h409 hl ok fun h₈ tk₈ S₈ R₈ => ?_
  refine law8 S₈ R₈ (look_here _ _ _) ok fun h₉ tk₉ S₉ => ?_
  refine law9 S₉ h409 ok fun h₁ tk₁ S₁ => ?_
  exact law10 S₁ h409 stA ok next
end
theorem ints_mem {vs : List Value} {ns : List Int} (I : IntsAre vs ns) : ∀ v ∈ vs, ∃ k u, v = Value.int k u := by
  induction I with
  | nil => intro v m; cases m
  | cons n t _ ih =>
    intro v m
    rcases List.mem_cons.mp m with rfl | m
    · exact ⟨_, _, rfl⟩
    · exact ih v m
theorem gl_law (w : World) : nsIn (Kw w) mainGlobals "law" = some (some (.ref 408)) := by kernel_rfl
theorem code_law (w : World) : codeIn (Kw w) (.ref 407) "law" = true := by kernel_rfl
theorem ok_caller (L : Addr) : Ok (callerA.deeper (eW L)) 11 := ⟨rfl, by rw [depth_deeper]; decide +kernel, by rw [units_deeper]; decide +kernel⟩
theorem law_code {w : World} {s : Shared} {mg mb : Str → Option Value} {p : Program} {loose : List Str} {sl : Addr} {vs : List Value} {R : Result → Shared → Prop} (X : (Kw w).In s.heap) (T : TopRead p loose mg mb s.heap)
    (P : s.heap.IsList sl vs.toArray) (I : ∀ v ∈ vs, ∃ k u, v = Value.int k u) (hn : vs.length ≤ 1000)
    (kk : ∀ h' tk' L ls, Fr s.heap L h' (look ls) → R (.ok (.ret (.bool true))) { s with heap := h', toks := tk' }) : codeAny (Mw w) callerA (.call (.ref 408) ⟨[.ref sl], []⟩) R s := by
  have G : G1 w s.heap := ⟨X, p, loose, mg, mb, T⟩
  have ho : s.heap.get? 408 = some (o_408 w.params) := X _ _ (by kernel_rfl)
  refine call_cells (name := "law") (params := p_408) (body := b_408) (scope := s_408) (pm := .str (.ofString "law_pc0136_01") 657) (cd := .ref 407) (doc := .none) (binds := [("script", .ref sl)]) (by decide +kernel) ho rfl T.nolimit (codeRec_of X (code_law w)) (by with_unfolding_all rfl) (fun x m => ?_) (fun h₁ tk F C => ?_)
  · rcases List.mem_cons.mp m with rfl | m
    · exact .inl (by kernel_rfl)
    · cases m
  · have eB : bindL (envOfC "law" s_408 s.heap.objs.size 408 (.ref 407)).kindOf [("script", Value.ref sl)] (fun _ => none) = look [("script", Value.ref sl)] := by
      have hk : (envOfC "law" s_408 s.heap.objs.size 408 (.ref 407)).kindOf "script" = some .local := by kernel_rfl
      unfold bindL bindL
      rw [if_pos hk]
      exact look_put [] "script" (.ref sl)
    rw [eB] at F
    have eC : cellsFrom (s.heap.objs.size + 1) s_408.names [] = [(("found" : Str), s.heap.objs.size + 1)] := by kernel_rfl
    have hc := C.cell "found" (s.heap.objs.size + 1) (by rw [eC]; rfl)
    have B : Bd w [] s s.heap s.heap.objs.size s.heap h₁ [("script", .ref sl)] := ⟨G, F, fun b o e _ => F.keep b o e, rfl, nil_mem, rfl⟩
    have eE : envOfC "law" s_408 s.heap.objs.size 408 (.ref 407) = eW s.heap.objs.size := by
      show envX _ _ _ _ _ (cellsFrom _ _ _) = _
      rw [eC]
    rw [eE]
    refine wpAny_mono (law_body (K := fun f s' => R (.ok (.ret (match f with | .ret v => v | _ => .none))) s') B (il_ext P (D := []) (fun b o e _ => F.keep b o e) nil_not) I hn hc G.size (Around.frames_deeper (env := eW s.heap.objs.size) (show callerA.frames = some [] from rfl)) (ok_caller _) fun h' tk' ls' B' => kk h' tk' _ ls' B'.F) (fun _ _ x => x) fun _ _ x => x
theorem wk : WalkO Q0 loose0 (XL Q0 []) H0.says LW.row.toRowW d0 [] fun f vs => call f vs := by
  intro w s₀ s₁ mg mb G Y fa o pm cd doc dV kV ho hd hcd hD hmg hg args vals as hpre hlay hrd hwl hlo
  have KX : (Kw w).In s₁.heap := kIn_of Y
  refine Ground.open G ?_
  intro T B D TE TW
  have hT := topRead_of T
  have e408 : fa = 408 := by
    have := mg_of KX hT.g (gl_law w)
    rw [show mg "law" = some (.ref fa) from hmg] at this
    exact Value.ref.inj (Option.some.inj this)
  subst e408
  clear ho hd hcd hD hmg Y B D TE TW
  wrow_args hpre hlay hrd hwl hlo
  rename_i ns h1 h2 h3 h4 h5 h6 h7 sl vs h8 hL h9 h10 h11 hI h12 hlen h13
  refine enter_call ?_
  refine codeAny_mono ?_ (fun _ _ g => GoodW.toG g)
  refine law_code KX hT hL (fun v m => ?_) ?_ fun h' tk' L ls F => ?_
  · exact ints_mem hI v m
  · have := hI.length
    omega
  · exact goodW_bool F hg (fun _ => rfl) (by with_unfolding_all rfl)
theorem all_holds : PySem.Challenge.rw_pc0136_01.Holds := top0 wk
end Mine
set_option maxRecDepth 100000 in
set_option maxHeartbeats 8000000 in
theorem PySem.Challenge.cw_pc0136_01_holds : PySem.Challenge.rw_pc0136_01.Holds := by
  exact Mine.all_holds
