import PyProof.Rows.All
import Wide.All
import OpenK.AllK
import Wide.FinOn
import PySem.Challenge.RW_rh0093_02
set_option Elab.async false
set_option bootstrap.genMatcherCode false
set_option compiler.extract_closed false
set_option genSizeOf false
set_option maxRecDepth 100000
set_option linter.unusedVariables false
set_option linter.unusedSectionVars false
set_option linter.unusedSimpArgs false
set_option maxHeartbeats 8000000
namespace Mine
open PySem PySem.W PyProof.Rows PySem.Calls
/-- strings, for the kernel -/
theorem ofS (s : String) : Str.ofString s = ⟨(s.toList.map Char.toNat).toArray⟩ := by
  rw [Str.ofString_eq_byList]; rfl
noncomputable def strQ (s : String) : Str := ⟨⟨R.mapR Char.toNat (S.toListS s)⟩⟩
theorem strQ_eq : Str.ofString = strQ := by
  funext s
  rw [ofS]
  unfold strQ
  rw [← R.mapR_eq, ← S.toListS_eq]

/-- the run to its end, by the tree -/
noncomputable def runW (thr ok : Thread → Bool) (st : SharedT → Thread → Option (SharedT × Thread)) : Nat → SharedT → Thread → Option SharedT
  | 0, _, _ => none
  | n + 1, s, t => match thr t with
    | true => some s
    | false => match ok t with
      | false => none
      | true => match st s t with
        | some (s', t') => runW thr ok st n s' t'
        | none => none
theorem run_of {tb : String → Option Builtin} {p : Program} {w : World} {n₀ : Nat} {ann : Option Value} : ∀ {n : Nat} {s s' : SharedT} {t : Thread},
    runW through (stepOk n₀ ann) (stepT (denote tb) p w) n s t = some s' → topRun tb p w n₀ ann n s.abs t = some s'.abs
  | 0, _, _, _, h => by cases h
  | n + 1, s, s', t, h => by
    unfold runW at h
    unfold topRun
    cases he : through t with
    | true => rw [he] at h; cases h; rfl
    | false =>
      rw [he] at h
      cases hk : stepOk n₀ ann t with
      | false => rw [hk] at h; cases h
      | true =>
        rw [hk] at h
        cases hs : stepT (denote tb) p w s t with
        | none => rw [hs] at h; cases h
        | some r => obtain ⟨s₂, t₂⟩ := r; rw [hs] at h; rw [stepT_spec hs]; exact run_of h

noncomputable def btOf : List Obj → Nat → BT → BT
  | [], _, t => t
  | o :: l, n, t => btOf l (n + 1) (t.ins n o)
noncomputable def bootT (P : Params) : BT := btOf (boot_heap P).objs.toList 0 .nil
noncomputable abbrev pw := PySem.Challenge.pw_rh0093_02
/-- the row's program as a function of its strings -/
noncomputable def pwAt (M : (String → Str) → Program) : Prop := pw = M Str.ofString
noncomputable def pwF : (String → Str) → Program := by
  refine' (?f : pwAt _ → (String → Str) → Program) ?h
  case h =>
    unfold pwAt pw PySem.Challenge.pw_rh0093_02
    generalize Str.ofString = s
    rfl
  case f =>
    change pwAt ?m → _
    exact fun _ => ?m
theorem pwF_eq : pw = pwF Str.ofString := by kernel_rfl
noncomputable def pq : Program := pwF strQ
theorem pq_eq : pw = pq := pwF_eq.trans (congrArg pwF strQ_eq)
theorem abs0 (P : Params) : absHeap (bootT P) 11 (boot_heap P).life = boot_heap P := by kernel_rfl
noncomputable abbrev ann6 : Option Value := some (.ref 6)
noncomputable abbrev kp : List Nat := [0, 2, 3, 4, 5, 6, 7, 8, 9, 10, 11, 12, 14, 15, 16, 17, 18, 21, 22, 23, 24, 25, 26, 27, 28, 30, 31, 32, 33, 34, 35, 36, 37, 38, 39, 40, 41, 43, 44, 45, 46, 47]
noncomputable abbrev lsN : List Str := [Str.ofString "NIL", Str.ofString "list_term"]
noncomputable abbrev lvN : List (Str × WData) := [(Str.ofString "NIL", WData.tuple [WData.str ⟨#[97]⟩, WData.int 0])]
noncomputable abbrev xtN (s : Shared) : Bool := xlAt (view pw kp) lvN s && recOk [] s
noncomputable abbrev s0T (w : World) (os : OsState) : SharedT := ⟨bootT w.params, 11, (boot_heap w.params).life, Array.mk [], boot_drawn, boot_toks, os⟩
noncomputable abbrev runF (w : World) (os : OsState) : Option SharedT := runW through (stepOk 11 ann6) (stepT (denote treeTable) pw w) 3600 (s0T w os) (topStub pw)

noncomputable def nthS : List Stmt → Nat → Stmt
  | [], _ => .Pass ⟨0, 0, 0, 0⟩
  | s :: _, 0 => s
  | _ :: l, n + 1 => nthS l n
noncomputable def clsB : Stmt → List Stmt
  | .ClassDef _ _ _ b _ _ _ _ _ _ _ => b
  | _ => []
noncomputable def fnB : Stmt → List Stmt
  | .FunctionDef _ _ b _ _ _ _ _ _ _ => b
  | _ => []
noncomputable def fnP : Stmt → Arguments
  | .FunctionDef _ a _ _ _ _ _ _ _ _ => a
  | _ => ⟨[], [], none, [], [], none, []⟩
noncomputable def fnS : Stmt → Scope
  | .FunctionDef _ _ _ _ _ _ c _ _ _ => c
  | _ => ⟨.module, [], false, false, []⟩
noncomputable def KF0 (σ : String → Str) (p : Program) (P : Params) : Frag := [
  (2, (Obj.mk Value.none Option.none (Data.dict (List.toArray [(DictEntry.mk (PyData.keyHash P (σ "type.__subclasses__.Exception.0")) (Value.str (σ "type.__subclasses__.Exception.0") 212) (Value.int (31 : Int) 0)), (DictEntry.mk (PyData.keyHash P (σ "type.__subclasses__.Exception.n")) (Value.str (σ "type.__subclasses__.Exception.n") 213) (Value.int (1 : Int) 0))]) 2) #[])),
  (3, (Obj.mk (Value.type "dict") Option.none (Data.dict (List.toArray [(DictEntry.mk (PyData.keyHash P (σ "__name__")) (Value.str (σ "__name__") 165) (Value.str (σ "law_rh0093_02") 902)), (DictEntry.mk (PyData.keyHash P (σ "__doc__")) (Value.str (σ "__doc__") 166) Value.none), (DictEntry.mk (PyData.keyHash P (σ "__package__")) (Value.str (σ "__package__") 167) Value.none), (DictEntry.mk (PyData.keyHash P (σ "__loader__")) (Value.str (σ "__loader__") 168) (Value.builtin "__main__.__loader__#opaque")), (DictEntry.mk (PyData.keyHash P (σ "__spec__")) (Value.str (σ "__spec__") 169) Value.none), (DictEntry.mk (PyData.keyHash P (σ "__annotations__")) (Value.str (σ "__annotations__") 170) (Value.ref 6)), (DictEntry.mk (PyData.keyHash P (σ "__builtins__")) (Value.str (σ "__builtins__") 171) (Value.ref 4)), (DictEntry.mk (PyData.keyHash P (σ "__file__")) (Value.str (σ "__file__") 173) (Value.str (σ "/claim/cut.py") 172)), (DictEntry.mk (PyData.keyHash P (σ "__cached__")) (Value.str (σ "__cached__") 174) Value.none), (DictEntry.mk (PyData.keyHash P (σ "_wall")) (Value.str (σ "_wall") 193) (Value.ref 21)), (DictEntry.mk (PyData.keyHash P (σ "ClausemillError")) (Value.str (σ "ClausemillError") 215) (Value.ref 31)), (DictEntry.mk (PyData.keyHash P (σ "SyntaxFault")) (Value.str (σ "SyntaxFault") 246) (Value.ref 51)), (DictEntry.mk (PyData.keyHash P (σ "A_NIL")) (Value.str (σ "A_NIL") 248) (Value.int (0 : Int) 247)), (DictEntry.mk (PyData.keyHash P (σ "A_CURLY")) (Value.str (σ "A_CURLY") 250) (Value.int (2 : Int) 249)), (DictEntry.mk (PyData.keyHash P (σ "A_COMMA")) (Value.str (σ "A_COMMA") 252) (Value.int (7 : Int) 251)), (DictEntry.mk (PyData.keyHash P (σ "A_BAR")) (Value.str (σ "A_BAR") 254) (Value.int (8 : Int) 253)), (DictEntry.mk (PyData.keyHash P (σ "F_DOT")) (Value.str (σ "F_DOT") 256) (Value.int (0 : Int) 255)), (DictEntry.mk (PyData.keyHash P (σ "F_CURLY")) (Value.str (σ "F_CURLY") 258) (Value.int (9 : Int) 257)), (DictEntry.mk (PyData.keyHash P (σ "fixed_atoms")) (Value.str (σ "fixed_atoms") 264) (Value.ref 60)), (DictEntry.mk (PyData.keyHash P (σ "fixed_functors")) (Value.str (σ "fixed_functors") 270) (Value.ref 67)), (DictEntry.mk (PyData.keyHash P (σ "Symbols")) (Value.str (σ "Symbols") 389) (Value.ref 154)), (DictEntry.mk (PyData.keyHash P (σ "NIL")) (Value.str (σ "NIL") 393) (Value.ref 159)), (DictEntry.mk (PyData.keyHash P (σ "var")) (Value.str (σ "var") 400) (Value.ref 166)), (DictEntry.mk (PyData.keyHash P (σ "atom")) (Value.str (σ "atom") 407) (Value.ref 173)), (DictEntry.mk (PyData.keyHash P (σ "integer")) (Value.str (σ "integer") 414) (Value.ref 180)), (DictEntry.mk (PyData.keyHash P (σ "struct")) (Value.str (σ "struct") 422) (Value.ref 187)), (DictEntry.mk (PyData.keyHash P (σ "list_term")) (Value.str (σ "list_term") 432) (Value.ref 195)), (DictEntry.mk (PyData.keyHash P (σ "COMMA_PRIORITY")) (Value.str (σ "COMMA_PRIORITY") 436) (Value.int (1000 : Int) 435)), (DictEntry.mk (PyData.keyHash P (σ "PREFIX_TYPES")) (Value.str (σ "PREFIX_TYPES") 439) (Value.ref 196)), (DictEntry.mk (PyData.keyHash P (σ "INFIX_TYPES")) (Value.str (σ "INFIX_TYPES") 443) (Value.ref 197)), (DictEntry.mk (PyData.keyHash P (σ "POSTFIX_TYPES")) (Value.str (σ "POSTFIX_TYPES") 446) (Value.ref 198)), (DictEntry.mk (PyData.keyHash P (σ "standard_rows")) (Value.str (σ "standard_rows") 452) (Value.ref 205)), (DictEntry.mk (PyData.keyHash P (σ "fixity")) (Value.str (σ "fixity") 459) (Value.ref 212)), (DictEntry.mk (PyData.keyHash P (σ "bounds")) (Value.str (σ "bounds") 468) (Value.ref 219)), (DictEntry.mk (PyData.keyHash P (σ "OperatorTable")) (Value.str (σ "OperatorTable") 568) (Value.ref 286)), (DictEntry.mk (PyData.keyHash P (σ "CLAUSE_PRIORITY")) (Value.str (σ "CLAUSE_PRIORITY") 572) (Value.int (1200 : Int) 571)), (DictEntry.mk (PyData.keyHash P (σ "ARGUMENT_PRIORITY")) (Value.str (σ "ARGUMENT_PRIORITY") 574) (Value.int (999 : Int) 573)), (DictEntry.mk (PyData.keyHash P (σ "WANT_OPERAND")) (Value.str (σ "WANT_OPERAND") 576) (Value.int (0 : Int) 575)), (DictEntry.mk (PyData.keyHash P (σ "WANT_OPERATOR")) (Value.str (σ "WANT_OPERATOR") 578) (Value.int (1 : Int) 577)), (DictEntry.mk (PyData.keyHash P (σ "DONE")) (Value.str (σ "DONE") 580) (Value.int (2 : Int) 579)), (DictEntry.mk (PyData.keyHash P (σ "CLOSERS")) (Value.str (σ "CLOSERS") 584) (Value.ref 291)), (DictEntry.mk (PyData.keyHash P (σ "SEPARATORS")) (Value.str (σ "SEPARATORS") 587) (Value.ref 292)), (DictEntry.mk (PyData.keyHash P (σ "Frame")) (Value.str (σ "Frame") 623) (Value.ref 309)), (DictEntry.mk (PyData.keyHash P (σ "ends_operand")) (Value.str (σ "ends_operand") 630) (Value.ref 320)), (DictEntry.mk (PyData.keyHash P (σ "closes")) (Value.str (σ "closes") 637) (Value.ref 327)), (DictEntry.mk (PyData.keyHash P (σ "is_punct")) (Value.str (σ "is_punct") 645) (Value.ref 334)), (DictEntry.mk (PyData.keyHash P (σ "Parser")) (Value.str (σ "Parser") 901) (Value.ref 517)), (DictEntry.mk (PyData.keyHash P (σ "_law_figures")) (Value.str (σ "_law_figures") 914) (Value.ref 528)), (DictEntry.mk (PyData.keyHash P (σ "_law_bound")) (Value.str (σ "_law_bound") 923) (Value.ref 535)), (DictEntry.mk (PyData.keyHash P (σ "_law_grid")) (Value.str (σ "_law_grid") 936) (Value.ref 542)), (DictEntry.mk (PyData.keyHash P (σ "_law_peeled")) (Value.str (σ "_law_peeled") 951) (Value.ref 549)), (DictEntry.mk (PyData.keyHash P (σ "law")) (Value.str (σ "law") 957) (Value.ref 554))]) 52) #[])),
  (20, (Obj.mk (Value.type "code") Option.none (Data.fields (List.toArray [(Value.str (σ "_wall") 187), (Value.str (σ "_wall") 188), (Value.str (σ "/claim/cut.py") 189), (Value.int (1 : Int) 0), (Value.int (1 : Int) 0), (Value.int (0 : Int) 0), (Value.int (0 : Int) 0), (Value.int (3 : Int) 0), (Value.ref 15), (Value.bool Bool.true), (Value.int (181 : Int) 0), (Value.ref 16), Value.none, (Value.ref 17), (Value.ref 18), (Value.ref 19), (Value.int (191 : Int) 0), (Value.int (1 : Int) 0), (Value.str (σ "/claim/cut.py") 192)])) #[])),
  (21, (Obj.mk (Value.type "function") Option.none (Data.func (FuncData.mk (σ "_wall") (σ "_wall") (fnP (nthS p.main.body 0)) (FuncBody.stmts (fnB (nthS p.main.body 0))) (fnS (nthS p.main.body 0)) 3 [] Value.none Value.none Value.none (Value.str (σ "__main__") 164) Option.none (Value.ref 20) Value.none 0)) #[])),
  (30, (Obj.mk (Value.type "dict") Option.none (Data.dict (List.toArray [(DictEntry.mk (PyData.keyHash P (σ "__module__")) (Value.str (σ "__module__") 203) (Value.str (σ "clausemill.symbols") 194)), (DictEntry.mk (PyData.keyHash P (σ "__firstlineno__")) (Value.str (σ "__firstlineno__") 207) (Value.int (5 : Int) 206)), (DictEntry.mk (PyData.keyHash P (σ "__static_attributes__")) (Value.str (σ "__static_attributes__") 208) (Value.ref 29)), (DictEntry.mk (PyData.keyHash P (σ "__weakref__")) (Value.str (σ "__weakref__") 210) (Value.ref 32)), (DictEntry.mk (PyData.keyHash P (σ "__doc__")) (Value.str (σ "__doc__") 211) Value.none)]) 3) #[])),
  (31, (Obj.mk (Value.type "type") Option.none (Data.cls (ClassData.mk (σ "ClausemillError") [(Value.type "Exception")] [(Value.ref 31), (Value.type "Exception"), (Value.type "BaseException"), (Value.type "object")] 30 (σ "ClausemillError") Bool.true [] [(Value.ref 51)] Bool.false Option.none Bool.false)) (List.toArray [(Option.some (Value.ref 22)), Option.none, (Option.some (Value.str (σ "ClausemillError") 196)), (Option.some (Value.str (σ "ClausemillError") 204)), (Option.some (Value.builtin "Exception.__new__")), (Option.some (Value.bool Bool.true))]))),
  (32, (Obj.mk (Value.type "getset_descriptor") Option.none (Data.fields (List.toArray [(Value.str (σ "__weakref__") 209), (Value.ref 31), (Value.builtin "ExceptionGroup.__weakref__"), Value.none])) #[])),
  (47, (Obj.mk (Value.type "code") Option.none (Data.fields (List.toArray [(Value.str (σ "__init__") 228), (Value.str (σ "SyntaxFault.__init__") 229), (Value.str (σ "/claim/cut.py") 230), (Value.int (9 : Int) 0), (Value.int (5 : Int) 0), (Value.int (0 : Int) 0), (Value.int (0 : Int) 0), (Value.int (3 : Int) 0), (Value.ref 42), (Value.bool Bool.true), (Value.int (181 : Int) 0), (Value.ref 43), Value.none, (Value.ref 44), (Value.ref 45), (Value.ref 46), (Value.int (236 : Int) 0), (Value.int (9 : Int) 0), (Value.str (σ "/claim/cut.py") 237)])) #[])),
  (48, (Obj.mk (Value.type "function") Option.none (Data.func (FuncData.mk (σ "__init__") (σ "SyntaxFault.__init__") (fnP (nthS (clsB (nthS p.main.body 3)) 0)) (FuncBody.stmts (fnB (nthS (clsB (nthS p.main.body 3)) 0))) (fnS (nthS (clsB (nthS p.main.body 3)) 0)) 3 [] Value.none Value.none Value.none (Value.str (σ "clausemill.symbols") 194) Option.none (Value.ref 47) Value.none 0)) #[])),
  (50, (Obj.mk (Value.type "dict") Option.none (Data.dict (List.toArray [(DictEntry.mk (PyData.keyHash P (σ "__module__")) (Value.str (σ "__module__") 223) (Value.str (σ "clausemill.symbols") 194)), (DictEntry.mk (PyData.keyHash P (σ "__firstlineno__")) (Value.str (σ "__firstlineno__") 227) (Value.int (7 : Int) 226)), (DictEntry.mk (PyData.keyHash P (σ "__init__")) (Value.str (σ "__init__") 238) (Value.ref 48)), (DictEntry.mk (PyData.keyHash P (σ "__static_attributes__")) (Value.str (σ "__static_attributes__") 243) (Value.ref 49)), (DictEntry.mk (PyData.keyHash P (σ "__doc__")) (Value.str (σ "__doc__") 244) Value.none)]) 2) #[])),
  (51, (Obj.mk (Value.type "type") Option.none (Data.cls (ClassData.mk (σ "SyntaxFault") [(Value.ref 31)] [(Value.ref 51), (Value.ref 31), (Value.type "Exception"), (Value.type "BaseException"), (Value.type "object")] 50 (σ "SyntaxFault") Bool.true [] [] Bool.false Option.none Bool.false)) (List.toArray [(Option.some (Value.ref 35)), Option.none, (Option.some (Value.str (σ "SyntaxFault") 216)), (Option.some (Value.str (σ "SyntaxFault") 224)), (Option.some (Value.builtin "Exception.__new__")), (Option.some (Value.bool Bool.true))]))),
  (59, (Obj.mk (Value.type "code") Option.none (Data.fields (List.toArray [(Value.str (σ "fixed_atoms") 259), (Value.str (σ "fixed_atoms") 260), (Value.str (σ "/claim/cut.py") 261), (Value.int (20 : Int) 0), (Value.int (0 : Int) 0), (Value.int (0 : Int) 0), (Value.int (0 : Int) 0), (Value.int (3 : Int) 0), (Value.ref 54), (Value.bool Bool.true), (Value.int (181 : Int) 0), (Value.ref 55), Value.none, (Value.ref 56), (Value.ref 57), (Value.ref 58), (Value.int (262 : Int) 0), (Value.int (20 : Int) 0), (Value.str (σ "/claim/cut.py") 263)])) #[])),
  (60, (Obj.mk (Value.type "function") Option.none (Data.func (FuncData.mk (σ "fixed_atoms") (σ "fixed_atoms") (fnP (nthS p.main.body 10)) (FuncBody.stmts (fnB (nthS p.main.body 10))) (fnS (nthS p.main.body 10)) 3 [] Value.none Value.none Value.none (Value.str (σ "clausemill.symbols") 194) Option.none (Value.ref 59) Value.none 0)) #[])),
  (66, (Obj.mk (Value.type "code") Option.none (Data.fields (List.toArray [(Value.str (σ "fixed_functors") 265), (Value.str (σ "fixed_functors") 266), (Value.str (σ "/claim/cut.py") 267), (Value.int (22 : Int) 0), (Value.int (0 : Int) 0), (Value.int (0 : Int) 0), (Value.int (0 : Int) 0), (Value.int (3 : Int) 0), (Value.ref 61), (Value.bool Bool.true), (Value.int (181 : Int) 0), (Value.ref 62), Value.none, (Value.ref 63), (Value.ref 64), (Value.ref 65), (Value.int (268 : Int) 0), (Value.int (22 : Int) 0), (Value.str (σ "/claim/cut.py") 269)])) #[])),
  (67, (Obj.mk (Value.type "function") Option.none (Data.func (FuncData.mk (σ "fixed_functors") (σ "fixed_functors") (fnP (nthS p.main.body 11)) (FuncBody.stmts (fnB (nthS p.main.body 11))) (fnS (nthS p.main.body 11)) 3 [] Value.none Value.none Value.none (Value.str (σ "clausemill.symbols") 194) Option.none (Value.ref 66) Value.none 0)) #[])),
  (80, (Obj.mk (Value.type "code") Option.none (Data.fields (List.toArray [(Value.str (σ "__init__") 283), (Value.str (σ "Symbols.__init__") 284), (Value.str (σ "/claim/cut.py") 285), (Value.int (26 : Int) 0), (Value.int (1 : Int) 0), (Value.int (0 : Int) 0), (Value.int (0 : Int) 0), (Value.int (3 : Int) 0), (Value.ref 75), (Value.bool Bool.true), (Value.int (181 : Int) 0), (Value.ref 76), Value.none, (Value.ref 77), (Value.ref 78), (Value.ref 79), (Value.int (289 : Int) 0), (Value.int (26 : Int) 0), (Value.str (σ "/claim/cut.py") 290)])) #[])),
  (81, (Obj.mk (Value.type "function") Option.none (Data.func (FuncData.mk (σ "__init__") (σ "Symbols.__init__") (fnP (nthS (clsB (nthS p.main.body 12)) 0)) (FuncBody.stmts (fnB (nthS (clsB (nthS p.main.body 12)) 0))) (fnS (nthS (clsB (nthS p.main.body 12)) 0)) 3 [] Value.none Value.none Value.none (Value.str (σ "clausemill.symbols") 194) Option.none (Value.ref 80) Value.none 0)) #[])),
  (87, (Obj.mk (Value.type "code") Option.none (Data.fields (List.toArray [(Value.str (σ "atom") 292), (Value.str (σ "Symbols.atom") 293), (Value.str (σ "/claim/cut.py") 294), (Value.int (36 : Int) 0), (Value.int (2 : Int) 0), (Value.int (0 : Int) 0), (Value.int (0 : Int) 0), (Value.int (3 : Int) 0), (Value.ref 82), (Value.bool Bool.true), (Value.int (181 : Int) 0), (Value.ref 83), Value.none, (Value.ref 84), (Value.ref 85), (Value.ref 86), (Value.int (299 : Int) 0), (Value.int (36 : Int) 0), (Value.str (σ "/claim/cut.py") 300)])) #[])),
  (88, (Obj.mk (Value.type "function") Option.none (Data.func (FuncData.mk (σ "atom") (σ "Symbols.atom") (fnP (nthS (clsB (nthS p.main.body 12)) 1)) (FuncBody.stmts (fnB (nthS (clsB (nthS p.main.body 12)) 1))) (fnS (nthS (clsB (nthS p.main.body 12)) 1)) 3 [] Value.none Value.none Value.none (Value.str (σ "clausemill.symbols") 194) Option.none (Value.ref 87) Value.none 0)) #[])),
  (94, (Obj.mk (Value.type "code") Option.none (Data.fields (List.toArray [(Value.str (σ "text") 302), (Value.str (σ "Symbols.text") 303), (Value.str (σ "/claim/cut.py") 304), (Value.int (45 : Int) 0), (Value.int (2 : Int) 0), (Value.int (0 : Int) 0), (Value.int (0 : Int) 0), (Value.int (3 : Int) 0), (Value.ref 89), (Value.bool Bool.true), (Value.int (181 : Int) 0), (Value.ref 90), Value.none, (Value.ref 91), (Value.ref 92), (Value.ref 93), (Value.int (307 : Int) 0), (Value.int (45 : Int) 0), (Value.str (σ "/claim/cut.py") 308)])) #[])),
  (95, (Obj.mk (Value.type "function") Option.none (Data.func (FuncData.mk (σ "text") (σ "Symbols.text") (fnP (nthS (clsB (nthS p.main.body 12)) 2)) (FuncBody.stmts (fnB (nthS (clsB (nthS p.main.body 12)) 2))) (fnS (nthS (clsB (nthS p.main.body 12)) 2)) 3 [] Value.none Value.none Value.none (Value.str (σ "clausemill.symbols") 194) Option.none (Value.ref 94) Value.none 0)) #[])),
  (101, (Obj.mk (Value.type "code") Option.none (Data.fields (List.toArray [(Value.str (σ "functor") 310), (Value.str (σ "Symbols.functor") 311), (Value.str (σ "/claim/cut.py") 312), (Value.int (48 : Int) 0), (Value.int (3 : Int) 0), (Value.int (0 : Int) 0), (Value.int (0 : Int) 0), (Value.int (3 : Int) 0), (Value.ref 96), (Value.bool Bool.true), (Value.int (181 : Int) 0), (Value.ref 97), Value.none, (Value.ref 98), (Value.ref 99), (Value.ref 100), (Value.int (319 : Int) 0), (Value.int (48 : Int) 0), (Value.str (σ "/claim/cut.py") 320)])) #[])),
  (102, (Obj.mk (Value.type "function") Option.none (Data.func (FuncData.mk (σ "functor") (σ "Symbols.functor") (fnP (nthS (clsB (nthS p.main.body 12)) 3)) (FuncBody.stmts (fnB (nthS (clsB (nthS p.main.body 12)) 3))) (fnS (nthS (clsB (nthS p.main.body 12)) 3)) 3 [] Value.none Value.none Value.none (Value.str (σ "clausemill.symbols") 194) Option.none (Value.ref 101) Value.none 0)) #[])),
  (108, (Obj.mk (Value.type "code") Option.none (Data.fields (List.toArray [(Value.str (σ "func") 322), (Value.str (σ "Symbols.func") 323), (Value.str (σ "/claim/cut.py") 324), (Value.int (58 : Int) 0), (Value.int (3 : Int) 0), (Value.int (0 : Int) 0), (Value.int (0 : Int) 0), (Value.int (3 : Int) 0), (Value.ref 103), (Value.bool Bool.true), (Value.int (181 : Int) 0), (Value.ref 104), Value.none, (Value.ref 105), (Value.ref 106), (Value.ref 107), (Value.int (328 : Int) 0), (Value.int (58 : Int) 0), (Value.str (σ "/claim/cut.py") 329)])) #[])),
  (109, (Obj.mk (Value.type "function") Option.none (Data.func (FuncData.mk (σ "func") (σ "Symbols.func") (fnP (nthS (clsB (nthS p.main.body 12)) 4)) (FuncBody.stmts (fnB (nthS (clsB (nthS p.main.body 12)) 4))) (fnS (nthS (clsB (nthS p.main.body 12)) 4)) 3 [] Value.none Value.none Value.none (Value.str (σ "clausemill.symbols") 194) Option.none (Value.ref 108) Value.none 0)) #[])),
  (115, (Obj.mk (Value.type "code") Option.none (Data.fields (List.toArray [(Value.str (σ "name") 331), (Value.str (σ "Symbols.name") 332), (Value.str (σ "/claim/cut.py") 333), (Value.int (61 : Int) 0), (Value.int (2 : Int) 0), (Value.int (0 : Int) 0), (Value.int (0 : Int) 0), (Value.int (3 : Int) 0), (Value.ref 110), (Value.bool Bool.true), (Value.int (181 : Int) 0), (Value.ref 111), Value.none, (Value.ref 112), (Value.ref 113), (Value.ref 114), (Value.int (336 : Int) 0), (Value.int (61 : Int) 0), (Value.str (σ "/claim/cut.py") 337)])) #[])),
  (116, (Obj.mk (Value.type "function") Option.none (Data.func (FuncData.mk (σ "name") (σ "Symbols.name") (fnP (nthS (clsB (nthS p.main.body 12)) 5)) (FuncBody.stmts (fnB (nthS (clsB (nthS p.main.body 12)) 5))) (fnS (nthS (clsB (nthS p.main.body 12)) 5)) 3 [] Value.none Value.none Value.none (Value.str (σ "clausemill.symbols") 194) Option.none (Value.ref 115) Value.none 0)) #[])),
  (122, (Obj.mk (Value.type "code") Option.none (Data.fields (List.toArray [(Value.str (σ "arity") 339), (Value.str (σ "Symbols.arity") 340), (Value.str (σ "/claim/cut.py") 341), (Value.int (64 : Int) 0), (Value.int (2 : Int) 0), (Value.int (0 : Int) 0), (Value.int (0 : Int) 0), (Value.int (3 : Int) 0), (Value.ref 117), (Value.bool Bool.true), (Value.int (181 : Int) 0), (Value.ref 118), Value.none, (Value.ref 119), (Value.ref 120), (Value.ref 121), (Value.int (344 : Int) 0), (Value.int (64 : Int) 0), (Value.str (σ "/claim/cut.py") 345)])) #[])),
  (123, (Obj.mk (Value.type "function") Option.none (Data.func (FuncData.mk (σ "arity") (σ "Symbols.arity") (fnP (nthS (clsB (nthS p.main.body 12)) 6)) (FuncBody.stmts (fnB (nthS (clsB (nthS p.main.body 12)) 6))) (fnS (nthS (clsB (nthS p.main.body 12)) 6)) 3 [] Value.none Value.none Value.none (Value.str (σ "clausemill.symbols") 194) Option.none (Value.ref 122) Value.none 0)) #[])),
  (129, (Obj.mk (Value.type "code") Option.none (Data.fields (List.toArray [(Value.str (σ "label") 347), (Value.str (σ "Symbols.label") 348), (Value.str (σ "/claim/cut.py") 349), (Value.int (67 : Int) 0), (Value.int (2 : Int) 0), (Value.int (0 : Int) 0), (Value.int (0 : Int) 0), (Value.int (3 : Int) 0), (Value.ref 124), (Value.bool Bool.true), (Value.int (181 : Int) 0), (Value.ref 125), Value.none, (Value.ref 126), (Value.ref 127), (Value.ref 128), (Value.int (352 : Int) 0), (Value.int (67 : Int) 0), (Value.str (σ "/claim/cut.py") 353)])) #[])),
  (130, (Obj.mk (Value.type "function") Option.none (Data.func (FuncData.mk (σ "label") (σ "Symbols.label") (fnP (nthS (clsB (nthS p.main.body 12)) 7)) (FuncBody.stmts (fnB (nthS (clsB (nthS p.main.body 12)) 7))) (fnS (nthS (clsB (nthS p.main.body 12)) 7)) 3 [] Value.none Value.none Value.none (Value.str (σ "clausemill.symbols") 194) Option.none (Value.ref 129) Value.none 0)) #[])),
  (136, (Obj.mk (Value.type "code") Option.none (Data.fields (List.toArray [(Value.str (σ "count") 355), (Value.str (σ "Symbols.count") 356), (Value.str (σ "/claim/cut.py") 357), (Value.int (70 : Int) 0), (Value.int (1 : Int) 0), (Value.int (0 : Int) 0), (Value.int (0 : Int) 0), (Value.int (3 : Int) 0), (Value.ref 131), (Value.bool Bool.true), (Value.int (181 : Int) 0), (Value.ref 132), Value.none, (Value.ref 133), (Value.ref 134), (Value.ref 135), (Value.int (359 : Int) 0), (Value.int (70 : Int) 0), (Value.str (σ "/claim/cut.py") 360)])) #[])),
  (137, (Obj.mk (Value.type "function") Option.none (Data.func (FuncData.mk (σ "count") (σ "Symbols.count") (fnP (nthS (clsB (nthS p.main.body 12)) 8)) (FuncBody.stmts (fnB (nthS (clsB (nthS p.main.body 12)) 8))) (fnS (nthS (clsB (nthS p.main.body 12)) 8)) 3 [] Value.none Value.none Value.none (Value.str (σ "clausemill.symbols") 194) Option.none (Value.ref 136) Value.none 0)) #[])),
  (143, (Obj.mk (Value.type "code") Option.none (Data.fields (List.toArray [(Value.str (σ "functor_count") 362), (Value.str (σ "Symbols.functor_count") 363), (Value.str (σ "/claim/cut.py") 364), (Value.int (73 : Int) 0), (Value.int (1 : Int) 0), (Value.int (0 : Int) 0), (Value.int (0 : Int) 0), (Value.int (3 : Int) 0), (Value.ref 138), (Value.bool Bool.true), (Value.int (181 : Int) 0), (Value.ref 139), Value.none, (Value.ref 140), (Value.ref 141), (Value.ref 142), (Value.int (366 : Int) 0), (Value.int (73 : Int) 0), (Value.str (σ "/claim/cut.py") 367)])) #[])),
  (144, (Obj.mk (Value.type "function") Option.none (Data.func (FuncData.mk (σ "functor_count") (σ "Symbols.functor_count") (fnP (nthS (clsB (nthS p.main.body 12)) 9)) (FuncBody.stmts (fnB (nthS (clsB (nthS p.main.body 12)) 9))) (fnS (nthS (clsB (nthS p.main.body 12)) 9)) 3 [] Value.none Value.none Value.none (Value.str (σ "clausemill.symbols") 194) Option.none (Value.ref 143) Value.none 0)) #[])),
  (150, (Obj.mk (Value.type "code") Option.none (Data.fields (List.toArray [(Value.str (σ "known") 369), (Value.str (σ "Symbols.known") 370), (Value.str (σ "/claim/cut.py") 371), (Value.int (76 : Int) 0), (Value.int (3 : Int) 0), (Value.int (0 : Int) 0), (Value.int (0 : Int) 0), (Value.int (3 : Int) 0), (Value.ref 145), (Value.bool Bool.true), (Value.int (181 : Int) 0), (Value.ref 146), Value.none, (Value.ref 147), (Value.ref 148), (Value.ref 149), (Value.int (375 : Int) 0), (Value.int (76 : Int) 0), (Value.str (σ "/claim/cut.py") 376)])) #[])),
  (151, (Obj.mk (Value.type "function") Option.none (Data.func (FuncData.mk (σ "known") (σ "Symbols.known") (fnP (nthS (clsB (nthS p.main.body 12)) 10)) (FuncBody.stmts (fnB (nthS (clsB (nthS p.main.body 12)) 10))) (fnS (nthS (clsB (nthS p.main.body 12)) 10)) 3 [] Value.none Value.none Value.none (Value.str (σ "clausemill.symbols") 194) Option.none (Value.ref 150) Value.none 0)) #[])),
  (153, (Obj.mk (Value.type "dict") Option.none (Data.dict (List.toArray [(DictEntry.mk (PyData.keyHash P (σ "__module__")) (Value.str (σ "__module__") 278) (Value.str (σ "clausemill.symbols") 194)), (DictEntry.mk (PyData.keyHash P (σ "__firstlineno__")) (Value.str (σ "__firstlineno__") 282) (Value.int (24 : Int) 281)), (DictEntry.mk (PyData.keyHash P (σ "__init__")) (Value.str (σ "__init__") 291) (Value.ref 81)), (DictEntry.mk (PyData.keyHash P (σ "atom")) (Value.str (σ "atom") 301) (Value.ref 88)), (DictEntry.mk (PyData.keyHash P (σ "text")) (Value.str (σ "text") 309) (Value.ref 95)), (DictEntry.mk (PyData.keyHash P (σ "functor")) (Value.str (σ "functor") 321) (Value.ref 102)), (DictEntry.mk (PyData.keyHash P (σ "func")) (Value.str (σ "func") 330) (Value.ref 109)), (DictEntry.mk (PyData.keyHash P (σ "name")) (Value.str (σ "name") 338) (Value.ref 116)), (DictEntry.mk (PyData.keyHash P (σ "arity")) (Value.str (σ "arity") 346) (Value.ref 123)), (DictEntry.mk (PyData.keyHash P (σ "label")) (Value.str (σ "label") 354) (Value.ref 130)), (DictEntry.mk (PyData.keyHash P (σ "count")) (Value.str (σ "count") 361) (Value.ref 137)), (DictEntry.mk (PyData.keyHash P (σ "functor_count")) (Value.str (σ "functor_count") 368) (Value.ref 144)), (DictEntry.mk (PyData.keyHash P (σ "known")) (Value.str (σ "known") 377) (Value.ref 151)), (DictEntry.mk (PyData.keyHash P (σ "__static_attributes__")) (Value.str (σ "__static_attributes__") 382) (Value.ref 152)), (DictEntry.mk (PyData.keyHash P (σ "__dict__")) (Value.str (σ "__dict__") 384) (Value.ref 155)), (DictEntry.mk (PyData.keyHash P (σ "__weakref__")) (Value.str (σ "__weakref__") 386) (Value.ref 156)), (DictEntry.mk (PyData.keyHash P (σ "__doc__")) (Value.str (σ "__doc__") 387) Value.none)]) 4) #[])),
  (154, (Obj.mk (Value.type "type") Option.none (Data.cls (ClassData.mk (σ "Symbols") [(Value.type "object")] [(Value.ref 154), (Value.type "object")] 153 (σ "Symbols") Bool.true [] [] Bool.false Option.none Bool.false)) (List.toArray [Option.none, Option.none, (Option.some (Value.str (σ "Symbols") 271)), (Option.some (Value.str (σ "Symbols") 279)), (Option.some (Value.builtin "object.__new__")), (Option.some (Value.bool Bool.true))]))),
  (155, (Obj.mk (Value.type "getset_descriptor") Option.none (Data.fields (List.toArray [(Value.str (σ "__dict__") 383), (Value.ref 154), (Value.builtin "function.__dict__"), (Value.builtin "function.__dict__#set")])) #[]))]
noncomputable def KF1 (σ : String → Str) (p : Program) (P : Params) : Frag := [
  (156, (Obj.mk (Value.type "getset_descriptor") Option.none (Data.fields (List.toArray [(Value.str (σ "__weakref__") 385), (Value.ref 154), (Value.builtin "ExceptionGroup.__weakref__"), Value.none])) #[])),
  (165, (Obj.mk (Value.type "code") Option.none (Data.fields (List.toArray [(Value.str (σ "var") 394), (Value.str (σ "var") 395), (Value.str (σ "/claim/cut.py") 396), (Value.int (80 : Int) 0), (Value.int (1 : Int) 0), (Value.int (0 : Int) 0), (Value.int (0 : Int) 0), (Value.int (3 : Int) 0), (Value.ref 160), (Value.bool Bool.true), (Value.int (181 : Int) 0), (Value.ref 161), Value.none, (Value.ref 162), (Value.ref 163), (Value.ref 164), (Value.int (398 : Int) 0), (Value.int (80 : Int) 0), (Value.str (σ "/claim/cut.py") 399)])) #[])),
  (166, (Obj.mk (Value.type "function") Option.none (Data.func (FuncData.mk (σ "var") (σ "var") (fnP (nthS p.main.body 15)) (FuncBody.stmts (fnB (nthS p.main.body 15))) (fnS (nthS p.main.body 15)) 3 [] Value.none Value.none Value.none (Value.str (σ "clausemill.terms") 390) Option.none (Value.ref 165) Value.none 0)) #[])),
  (172, (Obj.mk (Value.type "code") Option.none (Data.fields (List.toArray [(Value.str (σ "atom") 401), (Value.str (σ "atom") 402), (Value.str (σ "/claim/cut.py") 403), (Value.int (82 : Int) 0), (Value.int (1 : Int) 0), (Value.int (0 : Int) 0), (Value.int (0 : Int) 0), (Value.int (3 : Int) 0), (Value.ref 167), (Value.bool Bool.true), (Value.int (181 : Int) 0), (Value.ref 168), Value.none, (Value.ref 169), (Value.ref 170), (Value.ref 171), (Value.int (405 : Int) 0), (Value.int (82 : Int) 0), (Value.str (σ "/claim/cut.py") 406)])) #[])),
  (173, (Obj.mk (Value.type "function") Option.none (Data.func (FuncData.mk (σ "atom") (σ "atom") (fnP (nthS p.main.body 16)) (FuncBody.stmts (fnB (nthS p.main.body 16))) (fnS (nthS p.main.body 16)) 3 [] Value.none Value.none Value.none (Value.str (σ "clausemill.terms") 390) Option.none (Value.ref 172) Value.none 0)) #[])),
  (179, (Obj.mk (Value.type "code") Option.none (Data.fields (List.toArray [(Value.str (σ "integer") 408), (Value.str (σ "integer") 409), (Value.str (σ "/claim/cut.py") 410), (Value.int (84 : Int) 0), (Value.int (1 : Int) 0), (Value.int (0 : Int) 0), (Value.int (0 : Int) 0), (Value.int (3 : Int) 0), (Value.ref 174), (Value.bool Bool.true), (Value.int (181 : Int) 0), (Value.ref 175), Value.none, (Value.ref 176), (Value.ref 177), (Value.ref 178), (Value.int (412 : Int) 0), (Value.int (84 : Int) 0), (Value.str (σ "/claim/cut.py") 413)])) #[])),
  (180, (Obj.mk (Value.type "function") Option.none (Data.func (FuncData.mk (σ "integer") (σ "integer") (fnP (nthS p.main.body 17)) (FuncBody.stmts (fnB (nthS p.main.body 17))) (fnS (nthS p.main.body 17)) 3 [] Value.none Value.none Value.none (Value.str (σ "clausemill.terms") 390) Option.none (Value.ref 179) Value.none 0)) #[])),
  (186, (Obj.mk (Value.type "code") Option.none (Data.fields (List.toArray [(Value.str (σ "struct") 415), (Value.str (σ "struct") 416), (Value.str (σ "/claim/cut.py") 417), (Value.int (86 : Int) 0), (Value.int (2 : Int) 0), (Value.int (0 : Int) 0), (Value.int (0 : Int) 0), (Value.int (3 : Int) 0), (Value.ref 181), (Value.bool Bool.true), (Value.int (181 : Int) 0), (Value.ref 182), Value.none, (Value.ref 183), (Value.ref 184), (Value.ref 185), (Value.int (420 : Int) 0), (Value.int (86 : Int) 0), (Value.str (σ "/claim/cut.py") 421)])) #[])),
  (187, (Obj.mk (Value.type "function") Option.none (Data.func (FuncData.mk (σ "struct") (σ "struct") (fnP (nthS p.main.body 18)) (FuncBody.stmts (fnB (nthS p.main.body 18))) (fnS (nthS p.main.body 18)) 3 [] Value.none Value.none Value.none (Value.str (σ "clausemill.terms") 390) Option.none (Value.ref 186) Value.none 0)) #[])),
  (188, (Obj.mk (Value.type "tuple") Option.none (Data.seq (List.toArray [Value.none]) 0) #[])),
  (194, (Obj.mk (Value.type "code") Option.none (Data.fields (List.toArray [(Value.str (σ "list_term") 423), (Value.str (σ "list_term") 424), (Value.str (σ "/claim/cut.py") 425), (Value.int (88 : Int) 0), (Value.int (2 : Int) 0), (Value.int (0 : Int) 0), (Value.int (0 : Int) 0), (Value.int (3 : Int) 0), (Value.ref 189), (Value.bool Bool.true), (Value.int (181 : Int) 0), (Value.ref 190), Value.none, (Value.ref 191), (Value.ref 192), (Value.ref 193), (Value.int (430 : Int) 0), (Value.int (88 : Int) 0), (Value.str (σ "/claim/cut.py") 431)])) #[])),
  (195, (Obj.mk (Value.type "function") Option.none (Data.func (FuncData.mk (σ "list_term") (σ "list_term") (fnP (nthS p.main.body 19)) (FuncBody.stmts (fnB (nthS p.main.body 19))) (fnS (nthS p.main.body 19)) 3 [] (Value.ref 188) Value.none Value.none (Value.str (σ "clausemill.terms") 390) Option.none (Value.ref 194) Value.none 0)) #[])),
  (196, (Obj.mk (Value.type "tuple") Option.none (Data.seq (List.toArray [(Value.str (σ "fx") 437), (Value.str (σ "fy") 438)]) 0) #[])),
  (197, (Obj.mk (Value.type "tuple") Option.none (Data.seq (List.toArray [(Value.str (σ "xfx") 440), (Value.str (σ "xfy") 441), (Value.str (σ "yfx") 442)]) 0) #[])),
  (198, (Obj.mk (Value.type "tuple") Option.none (Data.seq (List.toArray [(Value.str (σ "xf") 444), (Value.str (σ "yf") 445)]) 0) #[])),
  (204, (Obj.mk (Value.type "code") Option.none (Data.fields (List.toArray [(Value.str (σ "standard_rows") 447), (Value.str (σ "standard_rows") 448), (Value.str (σ "/claim/cut.py") 449), (Value.int (98 : Int) 0), (Value.int (0 : Int) 0), (Value.int (0 : Int) 0), (Value.int (0 : Int) 0), (Value.int (3 : Int) 0), (Value.ref 199), (Value.bool Bool.true), (Value.int (181 : Int) 0), (Value.ref 200), Value.none, (Value.ref 201), (Value.ref 202), (Value.ref 203), (Value.int (450 : Int) 0), (Value.int (98 : Int) 0), (Value.str (σ "/claim/cut.py") 451)])) #[])),
  (205, (Obj.mk (Value.type "function") Option.none (Data.func (FuncData.mk (σ "standard_rows") (σ "standard_rows") (fnP (nthS p.main.body 25)) (FuncBody.stmts (fnB (nthS p.main.body 25))) (fnS (nthS p.main.body 25)) 3 [] Value.none Value.none Value.none (Value.str (σ "clausemill.operators") 433) Option.none (Value.ref 204) Value.none 0)) #[])),
  (211, (Obj.mk (Value.type "code") Option.none (Data.fields (List.toArray [(Value.str (σ "fixity") 453), (Value.str (σ "fixity") 454), (Value.str (σ "/claim/cut.py") 455), (Value.int (100 : Int) 0), (Value.int (1 : Int) 0), (Value.int (0 : Int) 0), (Value.int (0 : Int) 0), (Value.int (3 : Int) 0), (Value.ref 206), (Value.bool Bool.true), (Value.int (181 : Int) 0), (Value.ref 207), Value.none, (Value.ref 208), (Value.ref 209), (Value.ref 210), (Value.int (457 : Int) 0), (Value.int (100 : Int) 0), (Value.str (σ "/claim/cut.py") 458)])) #[])),
  (212, (Obj.mk (Value.type "function") Option.none (Data.func (FuncData.mk (σ "fixity") (σ "fixity") (fnP (nthS p.main.body 26)) (FuncBody.stmts (fnB (nthS p.main.body 26))) (fnS (nthS p.main.body 26)) 3 [] Value.none Value.none Value.none (Value.str (σ "clausemill.operators") 433) Option.none (Value.ref 211) Value.none 0)) #[])),
  (218, (Obj.mk (Value.type "code") Option.none (Data.fields (List.toArray [(Value.str (σ "bounds") 460), (Value.str (σ "bounds") 461), (Value.str (σ "/claim/cut.py") 462), (Value.int (108 : Int) 0), (Value.int (2 : Int) 0), (Value.int (0 : Int) 0), (Value.int (0 : Int) 0), (Value.int (3 : Int) 0), (Value.ref 213), (Value.bool Bool.true), (Value.int (181 : Int) 0), (Value.ref 214), Value.none, (Value.ref 215), (Value.ref 216), (Value.ref 217), (Value.int (466 : Int) 0), (Value.int (108 : Int) 0), (Value.str (σ "/claim/cut.py") 467)])) #[])),
  (219, (Obj.mk (Value.type "function") Option.none (Data.func (FuncData.mk (σ "bounds") (σ "bounds") (fnP (nthS p.main.body 27)) (FuncBody.stmts (fnB (nthS p.main.body 27))) (fnS (nthS p.main.body 27)) 3 [] Value.none Value.none Value.none (Value.str (σ "clausemill.operators") 433) Option.none (Value.ref 218) Value.none 0)) #[])),
  (227, (Obj.mk (Value.type "tuple") Option.none (Data.seq (List.toArray [(Value.bool Bool.true)]) 0) #[])),
  (233, (Obj.mk (Value.type "code") Option.none (Data.fields (List.toArray [(Value.str (σ "__init__") 481), (Value.str (σ "OperatorTable.__init__") 482), (Value.str (σ "/claim/cut.py") 483), (Value.int (125 : Int) 0), (Value.int (3 : Int) 0), (Value.int (0 : Int) 0), (Value.int (0 : Int) 0), (Value.int (3 : Int) 0), (Value.ref 228), (Value.bool Bool.true), (Value.int (181 : Int) 0), (Value.ref 229), Value.none, (Value.ref 230), (Value.ref 231), (Value.ref 232), (Value.int (491 : Int) 0), (Value.int (125 : Int) 0), (Value.str (σ "/claim/cut.py") 492)])) #[])),
  (234, (Obj.mk (Value.type "function") Option.none (Data.func (FuncData.mk (σ "__init__") (σ "OperatorTable.__init__") (fnP (nthS (clsB (nthS p.main.body 28)) 0)) (FuncBody.stmts (fnB (nthS (clsB (nthS p.main.body 28)) 0))) (fnS (nthS (clsB (nthS p.main.body 28)) 0)) 3 [] (Value.ref 227) Value.none Value.none (Value.str (σ "clausemill.operators") 433) Option.none (Value.ref 233) Value.none 0)) #[])),
  (240, (Obj.mk (Value.type "code") Option.none (Data.fields (List.toArray [(Value.str (σ "prefix") 494), (Value.str (σ "OperatorTable.prefix") 495), (Value.str (σ "/claim/cut.py") 496), (Value.int (136 : Int) 0), (Value.int (2 : Int) 0), (Value.int (0 : Int) 0), (Value.int (0 : Int) 0), (Value.int (3 : Int) 0), (Value.ref 235), (Value.bool Bool.true), (Value.int (181 : Int) 0), (Value.ref 236), Value.none, (Value.ref 237), (Value.ref 238), (Value.ref 239), (Value.int (499 : Int) 0), (Value.int (136 : Int) 0), (Value.str (σ "/claim/cut.py") 500)])) #[])),
  (241, (Obj.mk (Value.type "function") Option.none (Data.func (FuncData.mk (σ "prefix") (σ "OperatorTable.prefix") (fnP (nthS (clsB (nthS p.main.body 28)) 1)) (FuncBody.stmts (fnB (nthS (clsB (nthS p.main.body 28)) 1))) (fnS (nthS (clsB (nthS p.main.body 28)) 1)) 3 [] Value.none Value.none Value.none (Value.str (σ "clausemill.operators") 433) Option.none (Value.ref 240) Value.none 0)) #[])),
  (247, (Obj.mk (Value.type "code") Option.none (Data.fields (List.toArray [(Value.str (σ "infix") 502), (Value.str (σ "OperatorTable.infix") 503), (Value.str (σ "/claim/cut.py") 504), (Value.int (139 : Int) 0), (Value.int (2 : Int) 0), (Value.int (0 : Int) 0), (Value.int (0 : Int) 0), (Value.int (3 : Int) 0), (Value.ref 242), (Value.bool Bool.true), (Value.int (181 : Int) 0), (Value.ref 243), Value.none, (Value.ref 244), (Value.ref 245), (Value.ref 246), (Value.int (507 : Int) 0), (Value.int (139 : Int) 0), (Value.str (σ "/claim/cut.py") 508)])) #[])),
  (248, (Obj.mk (Value.type "function") Option.none (Data.func (FuncData.mk (σ "infix") (σ "OperatorTable.infix") (fnP (nthS (clsB (nthS p.main.body 28)) 2)) (FuncBody.stmts (fnB (nthS (clsB (nthS p.main.body 28)) 2))) (fnS (nthS (clsB (nthS p.main.body 28)) 2)) 3 [] Value.none Value.none Value.none (Value.str (σ "clausemill.operators") 433) Option.none (Value.ref 247) Value.none 0)) #[])),
  (254, (Obj.mk (Value.type "code") Option.none (Data.fields (List.toArray [(Value.str (σ "postfix") 510), (Value.str (σ "OperatorTable.postfix") 511), (Value.str (σ "/claim/cut.py") 512), (Value.int (142 : Int) 0), (Value.int (2 : Int) 0), (Value.int (0 : Int) 0), (Value.int (0 : Int) 0), (Value.int (3 : Int) 0), (Value.ref 249), (Value.bool Bool.true), (Value.int (181 : Int) 0), (Value.ref 250), Value.none, (Value.ref 251), (Value.ref 252), (Value.ref 253), (Value.int (515 : Int) 0), (Value.int (142 : Int) 0), (Value.str (σ "/claim/cut.py") 516)])) #[])),
  (255, (Obj.mk (Value.type "function") Option.none (Data.func (FuncData.mk (σ "postfix") (σ "OperatorTable.postfix") (fnP (nthS (clsB (nthS p.main.body 28)) 3)) (FuncBody.stmts (fnB (nthS (clsB (nthS p.main.body 28)) 3))) (fnS (nthS (clsB (nthS p.main.body 28)) 3)) 3 [] Value.none Value.none Value.none (Value.str (σ "clausemill.operators") 433) Option.none (Value.ref 254) Value.none 0)) #[])),
  (261, (Obj.mk (Value.type "code") Option.none (Data.fields (List.toArray [(Value.str (σ "is_operator") 518), (Value.str (σ "OperatorTable.is_operator") 519), (Value.str (σ "/claim/cut.py") 520), (Value.int (145 : Int) 0), (Value.int (2 : Int) 0), (Value.int (0 : Int) 0), (Value.int (0 : Int) 0), (Value.int (3 : Int) 0), (Value.ref 256), (Value.bool Bool.true), (Value.int (181 : Int) 0), (Value.ref 257), Value.none, (Value.ref 258), (Value.ref 259), (Value.ref 260), (Value.int (523 : Int) 0), (Value.int (145 : Int) 0), (Value.str (σ "/claim/cut.py") 524)])) #[])),
  (262, (Obj.mk (Value.type "function") Option.none (Data.func (FuncData.mk (σ "is_operator") (σ "OperatorTable.is_operator") (fnP (nthS (clsB (nthS p.main.body 28)) 4)) (FuncBody.stmts (fnB (nthS (clsB (nthS p.main.body 28)) 4))) (fnS (nthS (clsB (nthS p.main.body 28)) 4)) 3 [] Value.none Value.none Value.none (Value.str (σ "clausemill.operators") 433) Option.none (Value.ref 261) Value.none 0)) #[])),
  (268, (Obj.mk (Value.type "code") Option.none (Data.fields (List.toArray [(Value.str (σ "table_of") 526), (Value.str (σ "OperatorTable.table_of") 527), (Value.str (σ "/claim/cut.py") 528), (Value.int (148 : Int) 0), (Value.int (2 : Int) 0), (Value.int (0 : Int) 0), (Value.int (0 : Int) 0), (Value.int (3 : Int) 0), (Value.ref 263), (Value.bool Bool.true), (Value.int (181 : Int) 0), (Value.ref 264), Value.none, (Value.ref 265), (Value.ref 266), (Value.ref 267), (Value.int (532 : Int) 0), (Value.int (148 : Int) 0), (Value.str (σ "/claim/cut.py") 533)])) #[])),
  (269, (Obj.mk (Value.type "function") Option.none (Data.func (FuncData.mk (σ "table_of") (σ "OperatorTable.table_of") (fnP (nthS (clsB (nthS p.main.body 28)) 5)) (FuncBody.stmts (fnB (nthS (clsB (nthS p.main.body 28)) 5))) (fnS (nthS (clsB (nthS p.main.body 28)) 5)) 3 [] Value.none Value.none Value.none (Value.str (σ "clausemill.operators") 433) Option.none (Value.ref 268) Value.none 0)) #[])),
  (275, (Obj.mk (Value.type "code") Option.none (Data.fields (List.toArray [(Value.str (σ "add") 535), (Value.str (σ "OperatorTable.add") 536), (Value.str (σ "/claim/cut.py") 537), (Value.int (156 : Int) 0), (Value.int (4 : Int) 0), (Value.int (0 : Int) 0), (Value.int (0 : Int) 0), (Value.int (3 : Int) 0), (Value.ref 270), (Value.bool Bool.true), (Value.int (181 : Int) 0), (Value.ref 271), Value.none, (Value.ref 272), (Value.ref 273), (Value.ref 274), (Value.int (543 : Int) 0), (Value.int (156 : Int) 0), (Value.str (σ "/claim/cut.py") 544)])) #[])),
  (276, (Obj.mk (Value.type "function") Option.none (Data.func (FuncData.mk (σ "add") (σ "OperatorTable.add") (fnP (nthS (clsB (nthS p.main.body 28)) 6)) (FuncBody.stmts (fnB (nthS (clsB (nthS p.main.body 28)) 6))) (fnS (nthS (clsB (nthS p.main.body 28)) 6)) 3 [] Value.none Value.none Value.none (Value.str (σ "clausemill.operators") 433) Option.none (Value.ref 275) Value.none 0)) #[])),
  (282, (Obj.mk (Value.type "code") Option.none (Data.fields (List.toArray [(Value.str (σ "rows") 546), (Value.str (σ "OperatorTable.rows") 547), (Value.str (σ "/claim/cut.py") 548), (Value.int (163 : Int) 0), (Value.int (1 : Int) 0), (Value.int (0 : Int) 0), (Value.int (0 : Int) 0), (Value.int (3 : Int) 0), (Value.ref 277), (Value.bool Bool.true), (Value.int (181 : Int) 0), (Value.ref 278), Value.none, (Value.ref 279), (Value.ref 280), (Value.ref 281), (Value.int (554 : Int) 0), (Value.int (163 : Int) 0), (Value.str (σ "/claim/cut.py") 555)])) #[])),
  (283, (Obj.mk (Value.type "function") Option.none (Data.func (FuncData.mk (σ "rows") (σ "OperatorTable.rows") (fnP (nthS (clsB (nthS p.main.body 28)) 7)) (FuncBody.stmts (fnB (nthS (clsB (nthS p.main.body 28)) 7))) (fnS (nthS (clsB (nthS p.main.body 28)) 7)) 3 [] Value.none Value.none Value.none (Value.str (σ "clausemill.operators") 433) Option.none (Value.ref 282) Value.none 0)) #[])),
  (285, (Obj.mk (Value.type "dict") Option.none (Data.dict (List.toArray [(DictEntry.mk (PyData.keyHash P (σ "__module__")) (Value.str (σ "__module__") 476) (Value.str (σ "clausemill.operators") 433)), (DictEntry.mk (PyData.keyHash P (σ "__firstlineno__")) (Value.str (σ "__firstlineno__") 480) (Value.int (123 : Int) 479)), (DictEntry.mk (PyData.keyHash P (σ "__init__")) (Value.str (σ "__init__") 493) (Value.ref 234)), (DictEntry.mk (PyData.keyHash P (σ "prefix")) (Value.str (σ "prefix") 501) (Value.ref 241)), (DictEntry.mk (PyData.keyHash P (σ "infix")) (Value.str (σ "infix") 509) (Value.ref 248)), (DictEntry.mk (PyData.keyHash P (σ "postfix")) (Value.str (σ "postfix") 517) (Value.ref 255)), (DictEntry.mk (PyData.keyHash P (σ "is_operator")) (Value.str (σ "is_operator") 525) (Value.ref 262)), (DictEntry.mk (PyData.keyHash P (σ "table_of")) (Value.str (σ "table_of") 534) (Value.ref 269)), (DictEntry.mk (PyData.keyHash P (σ "add")) (Value.str (σ "add") 545) (Value.ref 276)), (DictEntry.mk (PyData.keyHash P (σ "rows")) (Value.str (σ "rows") 556) (Value.ref 283)), (DictEntry.mk (PyData.keyHash P (σ "__static_attributes__")) (Value.str (σ "__static_attributes__") 561) (Value.ref 284)), (DictEntry.mk (PyData.keyHash P (σ "__dict__")) (Value.str (σ "__dict__") 563) (Value.ref 287)), (DictEntry.mk (PyData.keyHash P (σ "__weakref__")) (Value.str (σ "__weakref__") 565) (Value.ref 288)), (DictEntry.mk (PyData.keyHash P (σ "__doc__")) (Value.str (σ "__doc__") 566) Value.none)]) 4) #[])),
  (286, (Obj.mk (Value.type "type") Option.none (Data.cls (ClassData.mk (σ "OperatorTable") [(Value.type "object")] [(Value.ref 286), (Value.type "object")] 285 (σ "OperatorTable") Bool.true [] [] Bool.false Option.none Bool.false)) (List.toArray [Option.none, Option.none, (Option.some (Value.str (σ "OperatorTable") 469)), (Option.some (Value.str (σ "OperatorTable") 477)), (Option.some (Value.builtin "object.__new__")), (Option.some (Value.bool Bool.true))])))]
noncomputable def KF2 (σ : String → Str) (p : Program) (P : Params) : Frag := [
  (287, (Obj.mk (Value.type "getset_descriptor") Option.none (Data.fields (List.toArray [(Value.str (σ "__dict__") 562), (Value.ref 286), (Value.builtin "function.__dict__"), (Value.builtin "function.__dict__#set")])) #[])),
  (288, (Obj.mk (Value.type "getset_descriptor") Option.none (Data.fields (List.toArray [(Value.str (σ "__weakref__") 564), (Value.ref 286), (Value.builtin "ExceptionGroup.__weakref__"), Value.none])) #[])),
  (291, (Obj.mk (Value.type "tuple") Option.none (Data.seq (List.toArray [(Value.str (σ ")") 581), (Value.str (σ "]") 582), (Value.str (σ "}") 583)]) 0) #[])),
  (292, (Obj.mk (Value.type "tuple") Option.none (Data.seq (List.toArray [(Value.str (σ ",") 585), (Value.str (σ "|") 586)]) 0) #[])),
  (305, (Obj.mk (Value.type "code") Option.none (Data.fields (List.toArray [(Value.str (σ "__init__") 600), (Value.str (σ "Frame.__init__") 601), (Value.str (σ "/claim/cut.py") 602), (Value.int (179 : Int) 0), (Value.int (3 : Int) 0), (Value.int (0 : Int) 0), (Value.int (0 : Int) 0), (Value.int (3 : Int) 0), (Value.ref 300), (Value.bool Bool.true), (Value.int (181 : Int) 0), (Value.ref 301), Value.none, (Value.ref 302), (Value.ref 303), (Value.ref 304), (Value.int (606 : Int) 0), (Value.int (179 : Int) 0), (Value.str (σ "/claim/cut.py") 607)])) #[])),
  (306, (Obj.mk (Value.type "function") Option.none (Data.func (FuncData.mk (σ "__init__") (σ "Frame.__init__") (fnP (nthS (clsB (nthS p.main.body 37)) 0)) (FuncBody.stmts (fnB (nthS (clsB (nthS p.main.body 37)) 0))) (fnS (nthS (clsB (nthS p.main.body 37)) 0)) 3 [] Value.none Value.none Value.none (Value.str (σ "clausemill.parser") 569) Option.none (Value.ref 305) Value.none 0)) #[])),
  (308, (Obj.mk (Value.type "dict") Option.none (Data.dict (List.toArray [(DictEntry.mk (PyData.keyHash P (σ "__module__")) (Value.str (σ "__module__") 595) (Value.str (σ "clausemill.parser") 569)), (DictEntry.mk (PyData.keyHash P (σ "__firstlineno__")) (Value.str (σ "__firstlineno__") 599) (Value.int (177 : Int) 598)), (DictEntry.mk (PyData.keyHash P (σ "__init__")) (Value.str (σ "__init__") 608) (Value.ref 306)), (DictEntry.mk (PyData.keyHash P (σ "__static_attributes__")) (Value.str (σ "__static_attributes__") 616) (Value.ref 307)), (DictEntry.mk (PyData.keyHash P (σ "__dict__")) (Value.str (σ "__dict__") 618) (Value.ref 310)), (DictEntry.mk (PyData.keyHash P (σ "__weakref__")) (Value.str (σ "__weakref__") 620) (Value.ref 311)), (DictEntry.mk (PyData.keyHash P (σ "__doc__")) (Value.str (σ "__doc__") 621) Value.none)]) 4) #[])),
  (309, (Obj.mk (Value.type "type") Option.none (Data.cls (ClassData.mk (σ "Frame") [(Value.type "object")] [(Value.ref 309), (Value.type "object")] 308 (σ "Frame") Bool.true [] [] Bool.false Option.none Bool.false)) (List.toArray [Option.none, Option.none, (Option.some (Value.str (σ "Frame") 588)), (Option.some (Value.str (σ "Frame") 596)), (Option.some (Value.builtin "object.__new__")), (Option.some (Value.bool Bool.true))]))),
  (310, (Obj.mk (Value.type "getset_descriptor") Option.none (Data.fields (List.toArray [(Value.str (σ "__dict__") 617), (Value.ref 309), (Value.builtin "function.__dict__"), (Value.builtin "function.__dict__#set")])) #[])),
  (311, (Obj.mk (Value.type "getset_descriptor") Option.none (Data.fields (List.toArray [(Value.str (σ "__weakref__") 619), (Value.ref 309), (Value.builtin "ExceptionGroup.__weakref__"), Value.none])) #[])),
  (319, (Obj.mk (Value.type "code") Option.none (Data.fields (List.toArray [(Value.str (σ "ends_operand") 624), (Value.str (σ "ends_operand") 625), (Value.str (σ "/claim/cut.py") 626), (Value.int (187 : Int) 0), (Value.int (1 : Int) 0), (Value.int (0 : Int) 0), (Value.int (0 : Int) 0), (Value.int (3 : Int) 0), (Value.ref 314), (Value.bool Bool.true), (Value.int (181 : Int) 0), (Value.ref 315), Value.none, (Value.ref 316), (Value.ref 317), (Value.ref 318), (Value.int (628 : Int) 0), (Value.int (187 : Int) 0), (Value.str (σ "/claim/cut.py") 629)])) #[])),
  (320, (Obj.mk (Value.type "function") Option.none (Data.func (FuncData.mk (σ "ends_operand") (σ "ends_operand") (fnP (nthS p.main.body 38)) (FuncBody.stmts (fnB (nthS p.main.body 38))) (fnS (nthS p.main.body 38)) 3 [] Value.none Value.none Value.none (Value.str (σ "clausemill.parser") 569) Option.none (Value.ref 319) Value.none 0)) #[])),
  (326, (Obj.mk (Value.type "code") Option.none (Data.fields (List.toArray [(Value.str (σ "closes") 631), (Value.str (σ "closes") 632), (Value.str (σ "/claim/cut.py") 633), (Value.int (189 : Int) 0), (Value.int (1 : Int) 0), (Value.int (0 : Int) 0), (Value.int (0 : Int) 0), (Value.int (3 : Int) 0), (Value.ref 321), (Value.bool Bool.true), (Value.int (181 : Int) 0), (Value.ref 322), Value.none, (Value.ref 323), (Value.ref 324), (Value.ref 325), (Value.int (635 : Int) 0), (Value.int (189 : Int) 0), (Value.str (σ "/claim/cut.py") 636)])) #[])),
  (327, (Obj.mk (Value.type "function") Option.none (Data.func (FuncData.mk (σ "closes") (σ "closes") (fnP (nthS p.main.body 39)) (FuncBody.stmts (fnB (nthS p.main.body 39))) (fnS (nthS p.main.body 39)) 3 [] Value.none Value.none Value.none (Value.str (σ "clausemill.parser") 569) Option.none (Value.ref 326) Value.none 0)) #[])),
  (333, (Obj.mk (Value.type "code") Option.none (Data.fields (List.toArray [(Value.str (σ "is_punct") 638), (Value.str (σ "is_punct") 639), (Value.str (σ "/claim/cut.py") 640), (Value.int (191 : Int) 0), (Value.int (2 : Int) 0), (Value.int (0 : Int) 0), (Value.int (0 : Int) 0), (Value.int (3 : Int) 0), (Value.ref 328), (Value.bool Bool.true), (Value.int (181 : Int) 0), (Value.ref 329), Value.none, (Value.ref 330), (Value.ref 331), (Value.ref 332), (Value.int (643 : Int) 0), (Value.int (191 : Int) 0), (Value.str (σ "/claim/cut.py") 644)])) #[])),
  (334, (Obj.mk (Value.type "function") Option.none (Data.func (FuncData.mk (σ "is_punct") (σ "is_punct") (fnP (nthS p.main.body 40)) (FuncBody.stmts (fnB (nthS p.main.body 40))) (fnS (nthS p.main.body 40)) 3 [] Value.none Value.none Value.none (Value.str (σ "clausemill.parser") 569) Option.none (Value.ref 333) Value.none 0)) #[])),
  (347, (Obj.mk (Value.type "code") Option.none (Data.fields (List.toArray [(Value.str (σ "__init__") 658), (Value.str (σ "Parser.__init__") 659), (Value.str (σ "/claim/cut.py") 660), (Value.int (195 : Int) 0), (Value.int (5 : Int) 0), (Value.int (0 : Int) 0), (Value.int (0 : Int) 0), (Value.int (3 : Int) 0), (Value.ref 342), (Value.bool Bool.true), (Value.int (181 : Int) 0), (Value.ref 343), Value.none, (Value.ref 344), (Value.ref 345), (Value.ref 346), (Value.int (666 : Int) 0), (Value.int (195 : Int) 0), (Value.str (σ "/claim/cut.py") 667)])) #[])),
  (348, (Obj.mk (Value.type "function") Option.none (Data.func (FuncData.mk (σ "__init__") (σ "Parser.__init__") (fnP (nthS (clsB (nthS p.main.body 41)) 0)) (FuncBody.stmts (fnB (nthS (clsB (nthS p.main.body 41)) 0))) (fnS (nthS (clsB (nthS p.main.body 41)) 0)) 3 [] Value.none Value.none Value.none (Value.str (σ "clausemill.parser") 569) Option.none (Value.ref 347) Value.none 0)) #[])),
  (354, (Obj.mk (Value.type "code") Option.none (Data.fields (List.toArray [(Value.str (σ "clause") 669), (Value.str (σ "Parser.clause") 670), (Value.str (σ "/claim/cut.py") 671), (Value.int (210 : Int) 0), (Value.int (1 : Int) 0), (Value.int (0 : Int) 0), (Value.int (0 : Int) 0), (Value.int (3 : Int) 0), (Value.ref 349), (Value.bool Bool.true), (Value.int (181 : Int) 0), (Value.ref 350), Value.none, (Value.ref 351), (Value.ref 352), (Value.ref 353), (Value.int (676 : Int) 0), (Value.int (210 : Int) 0), (Value.str (σ "/claim/cut.py") 677)])) #[])),
  (355, (Obj.mk (Value.type "function") Option.none (Data.func (FuncData.mk (σ "clause") (σ "Parser.clause") (fnP (nthS (clsB (nthS p.main.body 41)) 1)) (FuncBody.stmts (fnB (nthS (clsB (nthS p.main.body 41)) 1))) (fnS (nthS (clsB (nthS p.main.body 41)) 1)) 3 [] Value.none Value.none Value.none (Value.str (σ "clausemill.parser") 569) Option.none (Value.ref 354) Value.none 0)) #[])),
  (361, (Obj.mk (Value.type "code") Option.none (Data.fields (List.toArray [(Value.str (σ "singles") 679), (Value.str (σ "Parser.singles") 680), (Value.str (σ "/claim/cut.py") 681), (Value.int (217 : Int) 0), (Value.int (1 : Int) 0), (Value.int (0 : Int) 0), (Value.int (0 : Int) 0), (Value.int (3 : Int) 0), (Value.ref 356), (Value.bool Bool.true), (Value.int (181 : Int) 0), (Value.ref 357), Value.none, (Value.ref 358), (Value.ref 359), (Value.ref 360), (Value.int (683 : Int) 0), (Value.int (217 : Int) 0), (Value.str (σ "/claim/cut.py") 684)])) #[])),
  (362, (Obj.mk (Value.type "function") Option.none (Data.func (FuncData.mk (σ "singles") (σ "Parser.singles") (fnP (nthS (clsB (nthS p.main.body 41)) 2)) (FuncBody.stmts (fnB (nthS (clsB (nthS p.main.body 41)) 2))) (fnS (nthS (clsB (nthS p.main.body 41)) 2)) 3 [] Value.none Value.none Value.none (Value.str (σ "clausemill.parser") 569) Option.none (Value.ref 361) Value.none 0)) #[])),
  (368, (Obj.mk (Value.type "code") Option.none (Data.fields (List.toArray [(Value.str (σ "peek") 686), (Value.str (σ "Parser.peek") 687), (Value.str (σ "/claim/cut.py") 688), (Value.int (220 : Int) 0), (Value.int (1 : Int) 0), (Value.int (0 : Int) 0), (Value.int (0 : Int) 0), (Value.int (3 : Int) 0), (Value.ref 363), (Value.bool Bool.true), (Value.int (181 : Int) 0), (Value.ref 364), Value.none, (Value.ref 365), (Value.ref 366), (Value.ref 367), (Value.int (690 : Int) 0), (Value.int (220 : Int) 0), (Value.str (σ "/claim/cut.py") 691)])) #[])),
  (369, (Obj.mk (Value.type "function") Option.none (Data.func (FuncData.mk (σ "peek") (σ "Parser.peek") (fnP (nthS (clsB (nthS p.main.body 41)) 3)) (FuncBody.stmts (fnB (nthS (clsB (nthS p.main.body 41)) 3))) (fnS (nthS (clsB (nthS p.main.body 41)) 3)) 3 [] Value.none Value.none Value.none (Value.str (σ "clausemill.parser") 569) Option.none (Value.ref 368) Value.none 0)) #[])),
  (375, (Obj.mk (Value.type "code") Option.none (Data.fields (List.toArray [(Value.str (σ "take") 693), (Value.str (σ "Parser.take") 694), (Value.str (σ "/claim/cut.py") 695), (Value.int (223 : Int) 0), (Value.int (1 : Int) 0), (Value.int (0 : Int) 0), (Value.int (0 : Int) 0), (Value.int (3 : Int) 0), (Value.ref 370), (Value.bool Bool.true), (Value.int (181 : Int) 0), (Value.ref 371), Value.none, (Value.ref 372), (Value.ref 373), (Value.ref 374), (Value.int (698 : Int) 0), (Value.int (223 : Int) 0), (Value.str (σ "/claim/cut.py") 699)])) #[])),
  (376, (Obj.mk (Value.type "function") Option.none (Data.func (FuncData.mk (σ "take") (σ "Parser.take") (fnP (nthS (clsB (nthS p.main.body 41)) 4)) (FuncBody.stmts (fnB (nthS (clsB (nthS p.main.body 41)) 4))) (fnS (nthS (clsB (nthS p.main.body 41)) 4)) 3 [] Value.none Value.none Value.none (Value.str (σ "clausemill.parser") 569) Option.none (Value.ref 375) Value.none 0)) #[])),
  (382, (Obj.mk (Value.type "code") Option.none (Data.fields (List.toArray [(Value.str (σ "fault") 701), (Value.str (σ "Parser.fault") 702), (Value.str (σ "/claim/cut.py") 703), (Value.int (228 : Int) 0), (Value.int (3 : Int) 0), (Value.int (0 : Int) 0), (Value.int (0 : Int) 0), (Value.int (3 : Int) 0), (Value.ref 377), (Value.bool Bool.true), (Value.int (181 : Int) 0), (Value.ref 378), Value.none, (Value.ref 379), (Value.ref 380), (Value.ref 381), (Value.int (707 : Int) 0), (Value.int (228 : Int) 0), (Value.str (σ "/claim/cut.py") 708)])) #[])),
  (383, (Obj.mk (Value.type "function") Option.none (Data.func (FuncData.mk (σ "fault") (σ "Parser.fault") (fnP (nthS (clsB (nthS p.main.body 41)) 5)) (FuncBody.stmts (fnB (nthS (clsB (nthS p.main.body 41)) 5))) (fnS (nthS (clsB (nthS p.main.body 41)) 5)) 3 [] Value.none Value.none Value.none (Value.str (σ "clausemill.parser") 569) Option.none (Value.ref 382) Value.none 0)) #[])),
  (389, (Obj.mk (Value.type "code") Option.none (Data.fields (List.toArray [(Value.str (σ "misplaced") 710), (Value.str (σ "Parser.misplaced") 711), (Value.str (σ "/claim/cut.py") 712), (Value.int (231 : Int) 0), (Value.int (3 : Int) 0), (Value.int (0 : Int) 0), (Value.int (0 : Int) 0), (Value.int (3 : Int) 0), (Value.ref 384), (Value.bool Bool.true), (Value.int (181 : Int) 0), (Value.ref 385), Value.none, (Value.ref 386), (Value.ref 387), (Value.ref 388), (Value.int (717 : Int) 0), (Value.int (231 : Int) 0), (Value.str (σ "/claim/cut.py") 718)])) #[])),
  (390, (Obj.mk (Value.type "function") Option.none (Data.func (FuncData.mk (σ "misplaced") (σ "Parser.misplaced") (fnP (nthS (clsB (nthS p.main.body 41)) 6)) (FuncBody.stmts (fnB (nthS (clsB (nthS p.main.body 41)) 6))) (fnS (nthS (clsB (nthS p.main.body 41)) 6)) 3 [] Value.none Value.none Value.none (Value.str (σ "clausemill.parser") 569) Option.none (Value.ref 389) Value.none 0)) #[])),
  (396, (Obj.mk (Value.type "code") Option.none (Data.fields (List.toArray [(Value.str (σ "parse") 720), (Value.str (σ "Parser.parse") 721), (Value.str (σ "/claim/cut.py") 722), (Value.int (241 : Int) 0), (Value.int (2 : Int) 0), (Value.int (0 : Int) 0), (Value.int (0 : Int) 0), (Value.int (3 : Int) 0), (Value.ref 391), (Value.bool Bool.true), (Value.int (181 : Int) 0), (Value.ref 392), Value.none, (Value.ref 393), (Value.ref 394), (Value.ref 395), (Value.int (726 : Int) 0), (Value.int (241 : Int) 0), (Value.str (σ "/claim/cut.py") 727)])) #[])),
  (397, (Obj.mk (Value.type "function") Option.none (Data.func (FuncData.mk (σ "parse") (σ "Parser.parse") (fnP (nthS (clsB (nthS p.main.body 41)) 7)) (FuncBody.stmts (fnB (nthS (clsB (nthS p.main.body 41)) 7))) (fnS (nthS (clsB (nthS p.main.body 41)) 7)) 3 [] Value.none Value.none Value.none (Value.str (σ "clausemill.parser") 569) Option.none (Value.ref 396) Value.none 0)) #[])),
  (403, (Obj.mk (Value.type "code") Option.none (Data.fields (List.toArray [(Value.str (σ "settle") 729), (Value.str (σ "Parser.settle") 730), (Value.str (σ "/claim/cut.py") 731), (Value.int (251 : Int) 0), (Value.int (3 : Int) 0), (Value.int (0 : Int) 0), (Value.int (0 : Int) 0), (Value.int (3 : Int) 0), (Value.ref 398), (Value.bool Bool.true), (Value.int (181 : Int) 0), (Value.ref 399), Value.none, (Value.ref 400), (Value.ref 401), (Value.ref 402), (Value.int (735 : Int) 0), (Value.int (251 : Int) 0), (Value.str (σ "/claim/cut.py") 736)])) #[])),
  (404, (Obj.mk (Value.type "function") Option.none (Data.func (FuncData.mk (σ "settle") (σ "Parser.settle") (fnP (nthS (clsB (nthS p.main.body 41)) 8)) (FuncBody.stmts (fnB (nthS (clsB (nthS p.main.body 41)) 8))) (fnS (nthS (clsB (nthS p.main.body 41)) 8)) 3 [] Value.none Value.none Value.none (Value.str (σ "clausemill.parser") 569) Option.none (Value.ref 403) Value.none 0)) #[])),
  (410, (Obj.mk (Value.type "code") Option.none (Data.fields (List.toArray [(Value.str (σ "enter") 738), (Value.str (σ "Parser.enter") 739), (Value.str (σ "/claim/cut.py") 740), (Value.int (256 : Int) 0), (Value.int (4 : Int) 0), (Value.int (0 : Int) 0), (Value.int (0 : Int) 0), (Value.int (3 : Int) 0), (Value.ref 405), (Value.bool Bool.true), (Value.int (181 : Int) 0), (Value.ref 406), Value.none, (Value.ref 407), (Value.ref 408), (Value.ref 409), (Value.int (746 : Int) 0), (Value.int (256 : Int) 0), (Value.str (σ "/claim/cut.py") 747)])) #[])),
  (411, (Obj.mk (Value.type "function") Option.none (Data.func (FuncData.mk (σ "enter") (σ "Parser.enter") (fnP (nthS (clsB (nthS p.main.body 41)) 9)) (FuncBody.stmts (fnB (nthS (clsB (nthS p.main.body 41)) 9))) (fnS (nthS (clsB (nthS p.main.body 41)) 9)) 3 [] Value.none Value.none Value.none (Value.str (σ "clausemill.parser") 569) Option.none (Value.ref 410) Value.none 0)) #[])),
  (417, (Obj.mk (Value.type "code") Option.none (Data.fields (List.toArray [(Value.str (σ "operand") 749), (Value.str (σ "Parser.operand") 750), (Value.str (σ "/claim/cut.py") 751), (Value.int (263 : Int) 0), (Value.int (1 : Int) 0), (Value.int (0 : Int) 0), (Value.int (0 : Int) 0), (Value.int (3 : Int) 0), (Value.ref 412), (Value.bool Bool.true), (Value.int (181 : Int) 0), (Value.ref 413), Value.none, (Value.ref 414), (Value.ref 415), (Value.ref 416), (Value.int (755 : Int) 0), (Value.int (263 : Int) 0), (Value.str (σ "/claim/cut.py") 756)])) #[])),
  (418, (Obj.mk (Value.type "function") Option.none (Data.func (FuncData.mk (σ "operand") (σ "Parser.operand") (fnP (nthS (clsB (nthS p.main.body 41)) 10)) (FuncBody.stmts (fnB (nthS (clsB (nthS p.main.body 41)) 10))) (fnS (nthS (clsB (nthS p.main.body 41)) 10)) 3 [] Value.none Value.none Value.none (Value.str (σ "clausemill.parser") 569) Option.none (Value.ref 417) Value.none 0)) #[])),
  (424, (Obj.mk (Value.type "code") Option.none (Data.fields (List.toArray [(Value.str (σ "named") 758), (Value.str (σ "Parser.named") 759), (Value.str (σ "/claim/cut.py") 760), (Value.int (288 : Int) 0), (Value.int (3 : Int) 0), (Value.int (0 : Int) 0), (Value.int (0 : Int) 0), (Value.int (3 : Int) 0), (Value.ref 419), (Value.bool Bool.true), (Value.int (181 : Int) 0), (Value.ref 420), Value.none, (Value.ref 421), (Value.ref 422), (Value.ref 423), (Value.int (765 : Int) 0), (Value.int (288 : Int) 0), (Value.str (σ "/claim/cut.py") 766)])) #[])),
  (425, (Obj.mk (Value.type "function") Option.none (Data.func (FuncData.mk (σ "named") (σ "Parser.named") (fnP (nthS (clsB (nthS p.main.body 41)) 11)) (FuncBody.stmts (fnB (nthS (clsB (nthS p.main.body 41)) 11))) (fnS (nthS (clsB (nthS p.main.body 41)) 11)) 3 [] Value.none Value.none Value.none (Value.str (σ "clausemill.parser") 569) Option.none (Value.ref 424) Value.none 0)) #[]))]
noncomputable def KF3 (σ : String → Str) (p : Program) (P : Params) : Frag := [
  (431, (Obj.mk (Value.type "code") Option.none (Data.fields (List.toArray [(Value.str (σ "operator_operand") 768), (Value.str (σ "Parser.operator_operand") 769), (Value.str (σ "/claim/cut.py") 770), (Value.int (300 : Int) 0), (Value.int (3 : Int) 0), (Value.int (0 : Int) 0), (Value.int (0 : Int) 0), (Value.int (3 : Int) 0), (Value.ref 426), (Value.bool Bool.true), (Value.int (181 : Int) 0), (Value.ref 427), Value.none, (Value.ref 428), (Value.ref 429), (Value.ref 430), (Value.int (776 : Int) 0), (Value.int (300 : Int) 0), (Value.str (σ "/claim/cut.py") 777)])) #[])),
  (432, (Obj.mk (Value.type "function") Option.none (Data.func (FuncData.mk (σ "operator_operand") (σ "Parser.operator_operand") (fnP (nthS (clsB (nthS p.main.body 41)) 12)) (FuncBody.stmts (fnB (nthS (clsB (nthS p.main.body 41)) 12))) (fnS (nthS (clsB (nthS p.main.body 41)) 12)) 3 [] Value.none Value.none Value.none (Value.str (σ "clausemill.parser") 569) Option.none (Value.ref 431) Value.none 0)) #[])),
  (438, (Obj.mk (Value.type "code") Option.none (Data.fields (List.toArray [(Value.str (σ "stands_alone") 779), (Value.str (σ "Parser.stands_alone") 780), (Value.str (σ "/claim/cut.py") 781), (Value.int (315 : Int) 0), (Value.int (1 : Int) 0), (Value.int (0 : Int) 0), (Value.int (0 : Int) 0), (Value.int (3 : Int) 0), (Value.ref 433), (Value.bool Bool.true), (Value.int (181 : Int) 0), (Value.ref 434), Value.none, (Value.ref 435), (Value.ref 436), (Value.ref 437), (Value.int (783 : Int) 0), (Value.int (315 : Int) 0), (Value.str (σ "/claim/cut.py") 784)])) #[])),
  (439, (Obj.mk (Value.type "function") Option.none (Data.func (FuncData.mk (σ "stands_alone") (σ "Parser.stands_alone") (fnP (nthS (clsB (nthS p.main.body 41)) 13)) (FuncBody.stmts (fnB (nthS (clsB (nthS p.main.body 41)) 13))) (fnS (nthS (clsB (nthS p.main.body 41)) 13)) 3 [] Value.none Value.none Value.none (Value.str (σ "clausemill.parser") 569) Option.none (Value.ref 438) Value.none 0)) #[])),
  (445, (Obj.mk (Value.type "code") Option.none (Data.fields (List.toArray [(Value.str (σ "variable") 786), (Value.str (σ "Parser.variable") 787), (Value.str (σ "/claim/cut.py") 788), (Value.int (320 : Int) 0), (Value.int (2 : Int) 0), (Value.int (0 : Int) 0), (Value.int (0 : Int) 0), (Value.int (3 : Int) 0), (Value.ref 440), (Value.bool Bool.true), (Value.int (181 : Int) 0), (Value.ref 441), Value.none, (Value.ref 442), (Value.ref 443), (Value.ref 444), (Value.int (792 : Int) 0), (Value.int (320 : Int) 0), (Value.str (σ "/claim/cut.py") 793)])) #[])),
  (446, (Obj.mk (Value.type "function") Option.none (Data.func (FuncData.mk (σ "variable") (σ "Parser.variable") (fnP (nthS (clsB (nthS p.main.body 41)) 14)) (FuncBody.stmts (fnB (nthS (clsB (nthS p.main.body 41)) 14))) (fnS (nthS (clsB (nthS p.main.body 41)) 14)) 3 [] Value.none Value.none Value.none (Value.str (σ "clausemill.parser") 569) Option.none (Value.ref 445) Value.none 0)) #[])),
  (450, (Obj.mk (Value.type "code") Option.none (Data.fields (List.toArray [(Value.str (σ "string") 795), (Value.str (σ "Parser.string") 796), (Value.str (σ "/claim/cut.py") 797), (Value.int (333 : Int) 0), (Value.int (2 : Int) 0), (Value.int (0 : Int) 0), (Value.int (0 : Int) 0), (Value.int (3 : Int) 0), (Value.ref 447), (Value.bool Bool.true), (Value.int (181 : Int) 0), (Value.ref 448), Value.none, Value.none, Value.none, (Value.ref 449), (Value.int (798 : Int) 0), (Value.int (333 : Int) 0), (Value.str (σ "/claim/cut.py") 799)])) #[])),
  (451, (Obj.mk (Value.type "function") Option.none (Data.func (FuncData.mk (σ "string") (σ "Parser.string") (fnP (nthS (clsB (nthS p.main.body 41)) 15)) (FuncBody.stmts (fnB (nthS (clsB (nthS p.main.body 41)) 15))) (fnS (nthS (clsB (nthS p.main.body 41)) 15)) 3 [] Value.none Value.none Value.none (Value.str (σ "clausemill.parser") 569) Option.none (Value.ref 450) Value.none 0)) #[])),
  (457, (Obj.mk (Value.type "code") Option.none (Data.fields (List.toArray [(Value.str (σ "operator_name") 801), (Value.str (σ "Parser.operator_name") 802), (Value.str (σ "/claim/cut.py") 803), (Value.int (340 : Int) 0), (Value.int (2 : Int) 0), (Value.int (0 : Int) 0), (Value.int (0 : Int) 0), (Value.int (3 : Int) 0), (Value.ref 452), (Value.bool Bool.true), (Value.int (181 : Int) 0), (Value.ref 453), Value.none, (Value.ref 454), (Value.ref 455), (Value.ref 456), (Value.int (806 : Int) 0), (Value.int (340 : Int) 0), (Value.str (σ "/claim/cut.py") 807)])) #[])),
  (458, (Obj.mk (Value.type "function") Option.none (Data.func (FuncData.mk (σ "operator_name") (σ "Parser.operator_name") (fnP (nthS (clsB (nthS p.main.body 41)) 16)) (FuncBody.stmts (fnB (nthS (clsB (nthS p.main.body 41)) 16))) (fnS (nthS (clsB (nthS p.main.body 41)) 16)) 3 [] Value.none Value.none Value.none (Value.str (σ "clausemill.parser") 569) Option.none (Value.ref 457) Value.none 0)) #[])),
  (464, (Obj.mk (Value.type "code") Option.none (Data.fields (List.toArray [(Value.str (σ "operator") 809), (Value.str (σ "Parser.operator") 810), (Value.str (σ "/claim/cut.py") 811), (Value.int (349 : Int) 0), (Value.int (1 : Int) 0), (Value.int (0 : Int) 0), (Value.int (0 : Int) 0), (Value.int (3 : Int) 0), (Value.ref 459), (Value.bool Bool.true), (Value.int (181 : Int) 0), (Value.ref 460), Value.none, (Value.ref 461), (Value.ref 462), (Value.ref 463), (Value.int (815 : Int) 0), (Value.int (349 : Int) 0), (Value.str (σ "/claim/cut.py") 816)])) #[])),
  (465, (Obj.mk (Value.type "function") Option.none (Data.func (FuncData.mk (σ "operator") (σ "Parser.operator") (fnP (nthS (clsB (nthS p.main.body 41)) 17)) (FuncBody.stmts (fnB (nthS (clsB (nthS p.main.body 41)) 17))) (fnS (nthS (clsB (nthS p.main.body 41)) 17)) 3 [] Value.none Value.none Value.none (Value.str (σ "clausemill.parser") 569) Option.none (Value.ref 464) Value.none 0)) #[])),
  (471, (Obj.mk (Value.type "code") Option.none (Data.fields (List.toArray [(Value.str (σ "admits") 818), (Value.str (σ "Parser.admits") 819), (Value.str (σ "/claim/cut.py") 820), (Value.int (363 : Int) 0), (Value.int (2 : Int) 0), (Value.int (0 : Int) 0), (Value.int (0 : Int) 0), (Value.int (3 : Int) 0), (Value.ref 466), (Value.bool Bool.true), (Value.int (181 : Int) 0), (Value.ref 467), Value.none, (Value.ref 468), (Value.ref 469), (Value.ref 470), (Value.int (823 : Int) 0), (Value.int (363 : Int) 0), (Value.str (σ "/claim/cut.py") 824)])) #[])),
  (472, (Obj.mk (Value.type "function") Option.none (Data.func (FuncData.mk (σ "admits") (σ "Parser.admits") (fnP (nthS (clsB (nthS p.main.body 41)) 18)) (FuncBody.stmts (fnB (nthS (clsB (nthS p.main.body 41)) 18))) (fnS (nthS (clsB (nthS p.main.body 41)) 18)) 3 [] Value.none Value.none Value.none (Value.str (σ "clausemill.parser") 569) Option.none (Value.ref 471) Value.none 0)) #[])),
  (478, (Obj.mk (Value.type "code") Option.none (Data.fields (List.toArray [(Value.str (σ "shift_infix") 826), (Value.str (σ "Parser.shift_infix") 827), (Value.str (σ "/claim/cut.py") 828), (Value.int (368 : Int) 0), (Value.int (2 : Int) 0), (Value.int (0 : Int) 0), (Value.int (0 : Int) 0), (Value.int (3 : Int) 0), (Value.ref 473), (Value.bool Bool.true), (Value.int (181 : Int) 0), (Value.ref 474), Value.none, (Value.ref 475), (Value.ref 476), (Value.ref 477), (Value.int (833 : Int) 0), (Value.int (368 : Int) 0), (Value.str (σ "/claim/cut.py") 834)])) #[])),
  (479, (Obj.mk (Value.type "function") Option.none (Data.func (FuncData.mk (σ "shift_infix") (σ "Parser.shift_infix") (fnP (nthS (clsB (nthS p.main.body 41)) 19)) (FuncBody.stmts (fnB (nthS (clsB (nthS p.main.body 41)) 19))) (fnS (nthS (clsB (nthS p.main.body 41)) 19)) 3 [] Value.none Value.none Value.none (Value.str (σ "clausemill.parser") 569) Option.none (Value.ref 478) Value.none 0)) #[])),
  (485, (Obj.mk (Value.type "code") Option.none (Data.fields (List.toArray [(Value.str (σ "apply_postfix") 836), (Value.str (σ "Parser.apply_postfix") 837), (Value.str (σ "/claim/cut.py") 838), (Value.int (381 : Int) 0), (Value.int (2 : Int) 0), (Value.int (0 : Int) 0), (Value.int (0 : Int) 0), (Value.int (3 : Int) 0), (Value.ref 480), (Value.bool Bool.true), (Value.int (181 : Int) 0), (Value.ref 481), Value.none, (Value.ref 482), (Value.ref 483), (Value.ref 484), (Value.int (842 : Int) 0), (Value.int (381 : Int) 0), (Value.str (σ "/claim/cut.py") 843)])) #[])),
  (486, (Obj.mk (Value.type "function") Option.none (Data.func (FuncData.mk (σ "apply_postfix") (σ "Parser.apply_postfix") (fnP (nthS (clsB (nthS p.main.body 41)) 20)) (FuncBody.stmts (fnB (nthS (clsB (nthS p.main.body 41)) 20))) (fnS (nthS (clsB (nthS p.main.body 41)) 20)) 3 [] Value.none Value.none Value.none (Value.str (σ "clausemill.parser") 569) Option.none (Value.ref 485) Value.none 0)) #[])),
  (492, (Obj.mk (Value.type "code") Option.none (Data.fields (List.toArray [(Value.str (σ "reduce") 845), (Value.str (σ "Parser.reduce") 846), (Value.str (σ "/claim/cut.py") 847), (Value.int (389 : Int) 0), (Value.int (1 : Int) 0), (Value.int (0 : Int) 0), (Value.int (0 : Int) 0), (Value.int (3 : Int) 0), (Value.ref 487), (Value.bool Bool.true), (Value.int (181 : Int) 0), (Value.ref 488), Value.none, (Value.ref 489), (Value.ref 490), (Value.ref 491), (Value.int (850 : Int) 0), (Value.int (389 : Int) 0), (Value.str (σ "/claim/cut.py") 851)])) #[])),
  (493, (Obj.mk (Value.type "function") Option.none (Data.func (FuncData.mk (σ "reduce") (σ "Parser.reduce") (fnP (nthS (clsB (nthS p.main.body 41)) 21)) (FuncBody.stmts (fnB (nthS (clsB (nthS p.main.body 41)) 21))) (fnS (nthS (clsB (nthS p.main.body 41)) 21)) 3 [] Value.none Value.none Value.none (Value.str (σ "clausemill.parser") 569) Option.none (Value.ref 492) Value.none 0)) #[])),
  (499, (Obj.mk (Value.type "code") Option.none (Data.fields (List.toArray [(Value.str (σ "close") 853), (Value.str (σ "Parser.close") 854), (Value.str (σ "/claim/cut.py") 855), (Value.int (397 : Int) 0), (Value.int (2 : Int) 0), (Value.int (0 : Int) 0), (Value.int (0 : Int) 0), (Value.int (3 : Int) 0), (Value.ref 494), (Value.bool Bool.true), (Value.int (181 : Int) 0), (Value.ref 495), Value.none, (Value.ref 496), (Value.ref 497), (Value.ref 498), (Value.int (860 : Int) 0), (Value.int (397 : Int) 0), (Value.str (σ "/claim/cut.py") 861)])) #[])),
  (500, (Obj.mk (Value.type "function") Option.none (Data.func (FuncData.mk (σ "close") (σ "Parser.close") (fnP (nthS (clsB (nthS p.main.body 41)) 22)) (FuncBody.stmts (fnB (nthS (clsB (nthS p.main.body 41)) 22))) (fnS (nthS (clsB (nthS p.main.body 41)) 22)) 3 [] Value.none Value.none Value.none (Value.str (σ "clausemill.parser") 569) Option.none (Value.ref 499) Value.none 0)) #[])),
  (506, (Obj.mk (Value.type "code") Option.none (Data.fields (List.toArray [(Value.str (σ "separated") 863), (Value.str (σ "Parser.separated") 864), (Value.str (σ "/claim/cut.py") 865), (Value.int (417 : Int) 0), (Value.int (2 : Int) 0), (Value.int (0 : Int) 0), (Value.int (0 : Int) 0), (Value.int (3 : Int) 0), (Value.ref 501), (Value.bool Bool.true), (Value.int (181 : Int) 0), (Value.ref 502), Value.none, (Value.ref 503), (Value.ref 504), (Value.ref 505), (Value.int (869 : Int) 0), (Value.int (417 : Int) 0), (Value.str (σ "/claim/cut.py") 870)])) #[])),
  (507, (Obj.mk (Value.type "function") Option.none (Data.func (FuncData.mk (σ "separated") (σ "Parser.separated") (fnP (nthS (clsB (nthS p.main.body 41)) 23)) (FuncBody.stmts (fnB (nthS (clsB (nthS p.main.body 41)) 23))) (fnS (nthS (clsB (nthS p.main.body 41)) 23)) 3 [] Value.none Value.none Value.none (Value.str (σ "clausemill.parser") 569) Option.none (Value.ref 506) Value.none 0)) #[])),
  (513, (Obj.mk (Value.type "code") Option.none (Data.fields (List.toArray [(Value.str (σ "closed") 872), (Value.str (σ "Parser.closed") 873), (Value.str (σ "/claim/cut.py") 874), (Value.int (425 : Int) 0), (Value.int (2 : Int) 0), (Value.int (0 : Int) 0), (Value.int (0 : Int) 0), (Value.int (3 : Int) 0), (Value.ref 508), (Value.bool Bool.true), (Value.int (181 : Int) 0), (Value.ref 509), Value.none, (Value.ref 510), (Value.ref 511), (Value.ref 512), (Value.int (878 : Int) 0), (Value.int (425 : Int) 0), (Value.str (σ "/claim/cut.py") 879)])) #[])),
  (514, (Obj.mk (Value.type "function") Option.none (Data.func (FuncData.mk (σ "closed") (σ "Parser.closed") (fnP (nthS (clsB (nthS p.main.body 41)) 24)) (FuncBody.stmts (fnB (nthS (clsB (nthS p.main.body 41)) 24))) (fnS (nthS (clsB (nthS p.main.body 41)) 24)) 3 [] Value.none Value.none Value.none (Value.str (σ "clausemill.parser") 569) Option.none (Value.ref 513) Value.none 0)) #[])),
  (516, (Obj.mk (Value.type "dict") Option.none (Data.dict (List.toArray [(DictEntry.mk (PyData.keyHash P (σ "__module__")) (Value.str (σ "__module__") 653) (Value.str (σ "clausemill.parser") 569)), (DictEntry.mk (PyData.keyHash P (σ "__firstlineno__")) (Value.str (σ "__firstlineno__") 657) (Value.int (193 : Int) 656)), (DictEntry.mk (PyData.keyHash P (σ "__init__")) (Value.str (σ "__init__") 668) (Value.ref 348)), (DictEntry.mk (PyData.keyHash P (σ "clause")) (Value.str (σ "clause") 678) (Value.ref 355)), (DictEntry.mk (PyData.keyHash P (σ "singles")) (Value.str (σ "singles") 685) (Value.ref 362)), (DictEntry.mk (PyData.keyHash P (σ "peek")) (Value.str (σ "peek") 692) (Value.ref 369)), (DictEntry.mk (PyData.keyHash P (σ "take")) (Value.str (σ "take") 700) (Value.ref 376)), (DictEntry.mk (PyData.keyHash P (σ "fault")) (Value.str (σ "fault") 709) (Value.ref 383)), (DictEntry.mk (PyData.keyHash P (σ "misplaced")) (Value.str (σ "misplaced") 719) (Value.ref 390)), (DictEntry.mk (PyData.keyHash P (σ "parse")) (Value.str (σ "parse") 728) (Value.ref 397)), (DictEntry.mk (PyData.keyHash P (σ "settle")) (Value.str (σ "settle") 737) (Value.ref 404)), (DictEntry.mk (PyData.keyHash P (σ "enter")) (Value.str (σ "enter") 748) (Value.ref 411)), (DictEntry.mk (PyData.keyHash P (σ "operand")) (Value.str (σ "operand") 757) (Value.ref 418)), (DictEntry.mk (PyData.keyHash P (σ "named")) (Value.str (σ "named") 767) (Value.ref 425)), (DictEntry.mk (PyData.keyHash P (σ "operator_operand")) (Value.str (σ "operator_operand") 778) (Value.ref 432)), (DictEntry.mk (PyData.keyHash P (σ "stands_alone")) (Value.str (σ "stands_alone") 785) (Value.ref 439)), (DictEntry.mk (PyData.keyHash P (σ "variable")) (Value.str (σ "variable") 794) (Value.ref 446)), (DictEntry.mk (PyData.keyHash P (σ "string")) (Value.str (σ "string") 800) (Value.ref 451)), (DictEntry.mk (PyData.keyHash P (σ "operator_name")) (Value.str (σ "operator_name") 808) (Value.ref 458)), (DictEntry.mk (PyData.keyHash P (σ "operator")) (Value.str (σ "operator") 817) (Value.ref 465)), (DictEntry.mk (PyData.keyHash P (σ "admits")) (Value.str (σ "admits") 825) (Value.ref 472)), (DictEntry.mk (PyData.keyHash P (σ "shift_infix")) (Value.str (σ "shift_infix") 835) (Value.ref 479)), (DictEntry.mk (PyData.keyHash P (σ "apply_postfix")) (Value.str (σ "apply_postfix") 844) (Value.ref 486)), (DictEntry.mk (PyData.keyHash P (σ "reduce")) (Value.str (σ "reduce") 852) (Value.ref 493)), (DictEntry.mk (PyData.keyHash P (σ "close")) (Value.str (σ "close") 862) (Value.ref 500)), (DictEntry.mk (PyData.keyHash P (σ "separated")) (Value.str (σ "separated") 871) (Value.ref 507)), (DictEntry.mk (PyData.keyHash P (σ "closed")) (Value.str (σ "closed") 880) (Value.ref 514)), (DictEntry.mk (PyData.keyHash P (σ "__static_attributes__")) (Value.str (σ "__static_attributes__") 894) (Value.ref 515)), (DictEntry.mk (PyData.keyHash P (σ "__dict__")) (Value.str (σ "__dict__") 896) (Value.ref 518)), (DictEntry.mk (PyData.keyHash P (σ "__weakref__")) (Value.str (σ "__weakref__") 898) (Value.ref 519)), (DictEntry.mk (PyData.keyHash P (σ "__doc__")) (Value.str (σ "__doc__") 899) Value.none)]) 4) #[])),
  (517, (Obj.mk (Value.type "type") Option.none (Data.cls (ClassData.mk (σ "Parser") [(Value.type "object")] [(Value.ref 517), (Value.type "object")] 516 (σ "Parser") Bool.true [] [] Bool.false Option.none Bool.false)) (List.toArray [Option.none, Option.none, (Option.some (Value.str (σ "Parser") 646)), (Option.some (Value.str (σ "Parser") 654)), (Option.some (Value.builtin "object.__new__")), (Option.some (Value.bool Bool.true))]))),
  (518, (Obj.mk (Value.type "getset_descriptor") Option.none (Data.fields (List.toArray [(Value.str (σ "__dict__") 895), (Value.ref 517), (Value.builtin "function.__dict__"), (Value.builtin "function.__dict__#set")])) #[])),
  (519, (Obj.mk (Value.type "getset_descriptor") Option.none (Data.fields (List.toArray [(Value.str (σ "__weakref__") 897), (Value.ref 517), (Value.builtin "ExceptionGroup.__weakref__"), Value.none])) #[])),
  (527, (Obj.mk (Value.type "code") Option.none (Data.fields (List.toArray [(Value.str (σ "_law_figures") 904), (Value.str (σ "_law_figures") 905), (Value.str (σ "/claim/cut.py") 906), (Value.int (431 : Int) 0), (Value.int (2 : Int) 0), (Value.int (0 : Int) 0), (Value.int (0 : Int) 0), (Value.int (3 : Int) 0), (Value.ref 522), (Value.bool Bool.true), (Value.int (181 : Int) 0), (Value.ref 523), Value.none, (Value.ref 524), (Value.ref 525), (Value.ref 526), (Value.int (912 : Int) 0), (Value.int (431 : Int) 0), (Value.str (σ "/claim/cut.py") 913)])) #[])),
  (528, (Obj.mk (Value.type "function") Option.none (Data.func (FuncData.mk (σ "_law_figures") (σ "_law_figures") (fnP (nthS p.main.body 43)) (FuncBody.stmts (fnB (nthS p.main.body 43))) (fnS (nthS p.main.body 43)) 3 [] Value.none Value.none Value.none (Value.str (σ "law_rh0093_02") 902) Option.none (Value.ref 527) Value.none 0)) #[])),
  (534, (Obj.mk (Value.type "code") Option.none (Data.fields (List.toArray [(Value.str (σ "_law_bound") 915), (Value.str (σ "_law_bound") 916), (Value.str (σ "/claim/cut.py") 917), (Value.int (443 : Int) 0), (Value.int (1 : Int) 0), (Value.int (0 : Int) 0), (Value.int (0 : Int) 0), (Value.int (3 : Int) 0), (Value.ref 529), (Value.bool Bool.true), (Value.int (181 : Int) 0), (Value.ref 530), Value.none, (Value.ref 531), (Value.ref 532), (Value.ref 533), (Value.int (921 : Int) 0), (Value.int (443 : Int) 0), (Value.str (σ "/claim/cut.py") 922)])) #[])),
  (535, (Obj.mk (Value.type "function") Option.none (Data.func (FuncData.mk (σ "_law_bound") (σ "_law_bound") (fnP (nthS p.main.body 44)) (FuncBody.stmts (fnB (nthS p.main.body 44))) (fnS (nthS p.main.body 44)) 3 [] Value.none Value.none Value.none (Value.str (σ "law_rh0093_02") 902) Option.none (Value.ref 534) Value.none 0)) #[])),
  (541, (Obj.mk (Value.type "code") Option.none (Data.fields (List.toArray [(Value.str (σ "_law_grid") 924), (Value.str (σ "_law_grid") 925), (Value.str (σ "/claim/cut.py") 926), (Value.int (446 : Int) 0), (Value.int (2 : Int) 0), (Value.int (0 : Int) 0), (Value.int (0 : Int) 0), (Value.int (3 : Int) 0), (Value.ref 536), (Value.bool Bool.true), (Value.int (181 : Int) 0), (Value.ref 537), Value.none, (Value.ref 538), (Value.ref 539), (Value.ref 540), (Value.int (934 : Int) 0), (Value.int (446 : Int) 0), (Value.str (σ "/claim/cut.py") 935)])) #[])),
  (542, (Obj.mk (Value.type "function") Option.none (Data.func (FuncData.mk (σ "_law_grid") (σ "_law_grid") (fnP (nthS p.main.body 45)) (FuncBody.stmts (fnB (nthS p.main.body 45))) (fnS (nthS p.main.body 45)) 3 [] Value.none Value.none Value.none (Value.str (σ "law_rh0093_02") 902) Option.none (Value.ref 541) Value.none 0)) #[])),
  (548, (Obj.mk (Value.type "code") Option.none (Data.fields (List.toArray [(Value.str (σ "_law_peeled") 937), (Value.str (σ "_law_peeled") 938), (Value.str (σ "/claim/cut.py") 939), (Value.int (462 : Int) 0), (Value.int (4 : Int) 0), (Value.int (0 : Int) 0), (Value.int (0 : Int) 0), (Value.int (3 : Int) 0), (Value.ref 543), (Value.bool Bool.true), (Value.int (181 : Int) 0), (Value.ref 544), Value.none, (Value.ref 545), (Value.ref 546), (Value.ref 547), (Value.int (949 : Int) 0), (Value.int (462 : Int) 0), (Value.str (σ "/claim/cut.py") 950)])) #[])),
  (549, (Obj.mk (Value.type "function") Option.none (Data.func (FuncData.mk (σ "_law_peeled") (σ "_law_peeled") (fnP (nthS p.main.body 46)) (FuncBody.stmts (fnB (nthS p.main.body 46))) (fnS (nthS p.main.body 46)) 3 [] Value.none Value.none Value.none (Value.str (σ "law_rh0093_02") 902) Option.none (Value.ref 548) Value.none 0)) #[])),
  (553, (Obj.mk (Value.type "code") Option.none (Data.fields (List.toArray [(Value.str (σ "law") 952), (Value.str (σ "law") 953), (Value.str (σ "/claim/cut.py") 954), (Value.int (481 : Int) 0), (Value.int (1 : Int) 0), (Value.int (0 : Int) 0), (Value.int (0 : Int) 0), (Value.int (3 : Int) 0), (Value.ref 550), (Value.bool Bool.true), (Value.int (181 : Int) 0), (Value.ref 551), Value.none, Value.none, Value.none, (Value.ref 552), (Value.int (955 : Int) 0), (Value.int (481 : Int) 0), (Value.str (σ "/claim/cut.py") 956)])) #[])),
  (554, (Obj.mk (Value.type "function") Option.none (Data.func (FuncData.mk (σ "law") (σ "law") (fnP (nthS p.main.body 47)) (FuncBody.stmts (fnB (nthS p.main.body 47))) (fnS (nthS p.main.body 47)) 3 [] Value.none Value.none Value.none (Value.str (σ "law_rh0093_02") 902) Option.none (Value.ref 553) Value.none 0)) #[]))]
noncomputable def KF (σ : String → Str) (p : Program) (P : Params) : Frag := KF0 σ p P ++ KF1 σ p P ++ KF2 σ p P ++ KF3 σ p P
noncomputable def asF : List Addr := [2, 3, 20, 21, 30, 31, 32, 47, 48, 50, 51, 59, 60, 66, 67, 80, 81, 87, 88, 94, 95, 101, 102, 108, 109, 115, 116, 122, 123, 129, 130, 136, 137, 143, 144, 150, 151, 153, 154, 155, 156, 165, 166, 172, 173, 179, 180, 186, 187, 188, 194, 195, 196, 197, 198, 204, 205, 211, 212, 218, 219, 227, 233, 234, 240, 241, 247, 248, 254, 255, 261, 262, 268, 269, 275, 276, 282, 283, 285, 286, 287, 288, 291, 292, 305, 306, 308, 309, 310, 311, 319, 320, 326, 327, 333, 334, 347, 348, 354, 355, 361, 362, 368, 369, 375, 376, 382, 383, 389, 390, 396, 397, 403, 404, 410, 411, 417, 418, 424, 425, 431, 432, 438, 439, 445, 446, 450, 451, 457, 458, 464, 465, 471, 472, 478, 479, 485, 486, 492, 493, 499, 500, 506, 507, 513, 514, 516, 517, 518, 519, 527, 528, 534, 535, 541, 542, 548, 549, 553, 554]
noncomputable def KK (P : Params) : Frag := KF Str.ofString pw P
theorem asF_eq (P : Params) : asF = (KK P).map (·.1) := by kernel_rfl
noncomputable abbrev obsF (s : Shared) : List (Option Obj) := asF.map s.heap.get?
noncomputable abbrev valF (w : World) : List (Option Obj) := (KK w.params).map fun p => some p.2

theorem keyB (w : World) (os : OsState) : (runF w os).map (fun s => ((staticsOk (importedModules pw.main.body) (boot_heap w.params) s.abs.heap && namesBound pw s.abs.heap && gensDone s.abs && laidKept (boot_heap w.params) s.abs.heap), obsF s.abs)) = some (true, valF w) := by
  unfold valF KK runF
  rw [pq_eq, strQ_eq, Fast.te10156331382660048174, Fast.te6613529449190102663, Fast.te11892475500146522536, Fast.te14364793385576792824, Fast.te5923862056798008813]
  kernel_rfl
theorem keyC (w : World) (os : OsState) : (runF w os).map (fun s => openSeen (view pw kp) lsN (importedModules pw.main.body) xtN true s.abs) = some (openGood (view pw kp) lsN) := by
  unfold xtN lsN lvN runF
  rw [pq_eq, strQ_eq, Fast.te10156331382660048174, Fast.te6613529449190102663, Fast.te11892475500146522536, Fast.te14364793385576792824, Fast.te4187177175401517315, Fast.te5923862056798008813]
  kernel_rfl

theorem left_of {p q : Program} {loose : List Str} {Xt : Shared → Bool} {α : Type} {Yf : Shared → α} {Ya : World → α} {N n₀ : Nat} {ann : Option Value} {H : Params → Heap} {T : Params → BT} {d₀ : Drawn} {k₀ : Nat}
    (ho : ∀ w : World, (fencedOpening treeTable p w N).map (fun s => (s.heap, s.gens, s.drawn, s.toks)) = some (H w.params, Array.mk [], d₀, k₀))
    (ha : ∀ P, absHeap (T P) n₀ (H P).life = H P) (z1 : ∀ P, ((H P).isNs mainGlobals && (Array.mk [] : Array GenState).size == 0) = true) (z2 : ∀ P, (H P).objs.size = n₀) (z3 : ∀ P, (H P).nsMap mainGlobals "__annotations__" = ann)
    (kB : ∀ w os, (runW through (stepOk n₀ ann) (stepT (denote treeTable) p w) N ⟨T w.params, n₀, (H w.params).life, Array.mk [], d₀, k₀, os⟩ (topStub p)).map (fun s => ((staticsOk (importedModules p.main.body) (H w.params) s.abs.heap && namesBound p s.abs.heap && gensDone s.abs && laidKept (H w.params) s.abs.heap), Yf s.abs)) = some (true, Ya w))
    (kC : ∀ w os, (runW through (stepOk n₀ ann) (stepT (denote treeTable) p w) N ⟨T w.params, n₀, (H w.params).life, Array.mk [], d₀, k₀, os⟩ (topStub p)).map (fun s => openSeen q loose (importedModules p.main.body) Xt true s.abs) = some (openGood q loose)) : LeftO p q loose Xt Yf Ya N := by
  intro w
  obtain ⟨s, hs, hv⟩ := Option.map_eq_some_iff.mp (ho w)
  obtain ⟨h, gs, d, k, os⟩ := s
  simp only [Prod.mk.injEq] at hv
  obtain ⟨rfl, rfl, rfl, rfl⟩ := hv
  obtain ⟨sT, hr, hl⟩ := Option.map_eq_some_iff.mp (kB w os)
  have hc := kC w os
  rw [hr] at hc
  have hc := Option.some.inj hc
  have hrun := run_of hr
  have habs : SharedT.abs ⟨T w.params, n₀, (H w.params).life, Array.mk [], d, k, os⟩ = ⟨H w.params, Array.mk [], d, k, os⟩ := by
    show Shared.mk _ _ _ _ _ = _
    rw [ha]
  rw [habs] at hrun
  obtain ⟨l1, l2⟩ := Prod.mk.inj hl
  have t : topFrom treeTable p w N ⟨H w.params, Array.mk [], d, k, os⟩ = some sT.abs := by
    unfold topFrom
    dsimp only
    rw [z1, z2, z3, hrun]
    show (match staticsOk (importedModules p.main.body) (H w.params) sT.abs.heap && namesBound p sT.abs.heap && gensDone sT.abs && laidKept (H w.params) sT.abs.heap with | true => _ | false => _) = _
    rw [l1]
  unfold openEnds
  rw [hs]
  show (topFrom treeTable p w N _).map _ = _
  rw [t]
  exact congrArg some (Prod.ext hc l2)
theorem fence0 (s : Shared) : fenceModules? pw s = some s := by kernel_rfl
theorem open0 : opening pw = plainProg pw.main.scope.names := by kernel_rfl
theorem left : LeftO pw (view pw kp) lsN xtN obsF valF 3600 :=
  left_of (boot_open open0 (by kernel_rfl) fence0) abs0 (fun P => by kernel_rfl) (fun P => by kernel_rfl) (fun P => by kernel_rfl) keyB keyC
open PySem PySem.W PyProof.Rows PySem.Calls
noncomputable def rq : OpenLaw := { prog := pq, name := strQ "law", about := [strQ "Parser", strQ "parse"], foot := 5, most := some 63, bound := none, writes := false }
theorem rq_eq : PySem.Challenge.rw_rh0093_02 = rq := by
  unfold PySem.Challenge.rw_rh0093_02 rq
  rw [← strQ_eq, ← pq_eq]
theorem said0 : PySem.Challenge.rw_rh0093_02.wellSaid = true := by
  rw [rq_eq, Fast.te9446332074065402090]
  kernel_rfl
noncomputable abbrev lawS : Stmt := nthS pw.main.body 47
noncomputable def fnO : Stmt → Pos
  | .FunctionDef _ _ _ _ _ _ _ _ _ o => o
  | _ => ⟨0, 0, 0, 0⟩
noncomputable abbrev lawD : DefRec := { name := Str.ofString "law", params := fnP lawS, body := fnB lawS, scope := fnS lawS, pos := fnO lawS }
theorem hdef0 : defOf (view pw kp) PySem.Challenge.rw_rh0093_02.row.name = some (lawD, []) := by
  show defOf (view pw kp) (Str.ofString "law") = _
  unfold lawD lawS
  rw [pq_eq, strQ_eq]
  kernel_rfl
theorem hp0 : PySem.Challenge.rw_rh0093_02.row.prog.theDef PySem.Challenge.rw_rh0093_02.row.name = some (lawD.params, lawD.body, lawD.scope) := by
  show Program.theDef pw (Str.ofString "law") = some (fnP lawS, fnB lawS, fnS lawS)
  unfold lawS
  rw [pq_eq, strQ_eq, Fast.te10235530238920679567]
  kernel_rfl
theorem hk0 : kwWritten? lawD.params.kwonlyargs lawD.params.kw_defaults = some [] := by
  kernel_rfl
theorem ok0 : (chainsOk (view pw kp) && opensWell PySem.Challenge.rw_rh0093_02.row.prog && (frees PySem.Challenge.rw_rh0093_02.row.toRowW && PySem.Challenge.rw_rh0093_02.row.within.isEmpty)) = true := by
  rw [rq_eq, pq_eq, Fast.te2368527892694137696]
  kernel_rfl
theorem bare0 : PySem.Challenge.rw_rh0093_02.row.prog.bare := ⟨rfl, rfl, rfl, rfl, rfl, by decide +kernel⟩
open PySem PySem.W PySem.Calls PyProof.Rows
inductive AV where
  | none | bool (b : Bool) | int (i : Int) | str (s : Str) | tup (l : List AV) | ref (a : Addr) | oth (v : Value)

mutual
noncomputable def VR (h : Heap) : AV → Value → Prop
  | .none, v => v = Value.none
  | .bool b, v => v = Value.bool b
  | .int i, v => ∃ t, v = Value.int i t
  | .str s, v => ∃ t, v = Value.str s t
  | .tup l, v => ∃ a items, v = Value.ref a ∧ IsTup h a (List.toArray items) ∧ VRs h l items
  | .ref a, v => v = Value.ref a
  | .oth x, v => v = x
noncomputable def VRs (h : Heap) : List AV → List Value → Prop
  | [], vs => vs = []
  | x :: l, vs => ∃ v r, vs = v :: r ∧ VR h x v ∧ VRs h l r
end
mutual
theorem VR.keep {h h' : Heap} (k : ∀ a items, IsTup h a items → IsTup h' a items) : ∀ {x : AV} {v : Value}, VR h x v → VR h' x v
  | .none, _, e => by simpa only [VR] using e
  | .bool _, _, e => by simpa only [VR] using e
  | .int _, _, e => by simpa only [VR] using e
  | .str _, _, e => by simpa only [VR] using e
  | .ref _, _, e => by simpa only [VR] using e
  | .oth _, _, e => by simpa only [VR] using e
  | .tup l, _, e => by
    simp only [VR] at e ⊢
    obtain ⟨a, items, rfl, t, r⟩ := e
    exact ⟨a, items, rfl, k _ _ t, VRs.keep k r⟩
theorem VRs.keep {h h' : Heap} (k : ∀ a items, IsTup h a items → IsTup h' a items) : ∀ {l : List AV} {vs : List Value}, VRs h l vs → VRs h' l vs
  | [], _, e => by simpa only [VRs] using e
  | _ :: _, _, e => by
    simp only [VRs] at e ⊢
    obtain ⟨v, r, rfl, a, b⟩ := e
    exact ⟨v, r, rfl, VR.keep k a, VRs.keep k b⟩
end
theorem VR.intI {h : Heap} {i : Int} {t : Tok} : VR h (.int i) (.int i t) := by simp only [VR]; exact ⟨t, rfl⟩
theorem VR.strI {h : Heap} {i : Str} {t : Tok} : VR h (.str i) (.str i t) := by simp only [VR]; exact ⟨t, rfl⟩
theorem VR.boolI {h : Heap} {b : Bool} : VR h (.bool b) (.bool b) := by simp only [VR]
theorem VR.noneI {h : Heap} : VR h .none .none := by simp only [VR]
theorem VR.refI {h : Heap} {a : Addr} : VR h (.ref a) (.ref a) := by simp only [VR]
theorem VR.othI {h : Heap} {v : Value} : VR h (.oth v) v := by simp only [VR]
theorem VR.tupI {h : Heap} {a : Addr} {items : List Value} {l : List AV} (t : IsTup h a items.toArray) (r : VRs h l items) : VR h (.tup l) (.ref a) := by
  simp only [VR]; exact ⟨a, items, rfl, t, r⟩
theorem VR.intE {h : Heap} {i : Int} {v : Value} (e : VR h (.int i) v) : ∃ t, v = .int i t := by simpa only [VR] using e
theorem VR.strE {h : Heap} {i : Str} {v : Value} (e : VR h (.str i) v) : ∃ t, v = .str i t := by simpa only [VR] using e
theorem VR.boolE {h : Heap} {b : Bool} {v : Value} (e : VR h (.bool b) v) : v = .bool b := by simpa only [VR] using e
theorem VR.noneE {h : Heap} {v : Value} (e : VR h .none v) : v = .none := by simpa only [VR] using e
theorem VR.refE {h : Heap} {a : Addr} {v : Value} (e : VR h (.ref a) v) : v = .ref a := by simpa only [VR] using e
theorem VR.othE {h : Heap} {x v : Value} (e : VR h (.oth x) v) : v = x := by simpa only [VR] using e
theorem VR.tupE {h : Heap} {l : List AV} {v : Value} (e : VR h (.tup l) v) : ∃ a items, v = .ref a ∧ IsTup h a (List.toArray items) ∧ VRs h l items := by simpa only [VR] using e
theorem VRs.consE {h : Heap} {x : AV} {l : List AV} {vs : List Value} (e : VRs h (x :: l) vs) : ∃ v r, vs = v :: r ∧ VR h x v ∧ VRs h l r := by simpa only [VRs] using e
theorem VRs.nilE {h : Heap} {vs : List Value} (e : VRs h [] vs) : vs = [] := by simpa only [VRs] using e
theorem VRs.nil {h : Heap} : VRs h [] [] := by simp only [VRs]
theorem VRs.cons {h : Heap} {x : AV} {l : List AV} {v : Value} {r : List Value} (a : VR h x v) (b : VRs h l r) : VRs h (x :: l) (v :: r) := by
  simp only [VRs]; exact ⟨v, r, rfl, a, b⟩
theorem VRs.length {h : Heap} : ∀ {l : List AV} {vs : List Value}, VRs h l vs → vs.length = l.length
  | [], _, e => by simp only [VRs] at e; rw [e]; rfl
  | _ :: _, _, e => by simp only [VRs] at e; obtain ⟨v, r, rfl, _, b⟩ := e; simp [b.length]
theorem VRs.get {h : Heap} : ∀ {l : List AV} {vs : List Value}, VRs h l vs → ∀ {i : Nat} {a : AV}, l[i]? = some a → ∃ v, vs[i]? = some v ∧ VR h a v
  | [], _, _, _, _, e => by simp at e
  | x :: l, vs, e, i, a, ha => by
    simp only [VRs] at e
    obtain ⟨v, r, rfl, h1, h2⟩ := e
    cases i with
    | zero => simp at ha; subst ha; exact ⟨v, rfl, h1⟩
    | succ i => simpa using h2.get (by simpa using ha)
theorem VRs.get' {h : Heap} : ∀ {l : List AV} {vs : List Value}, VRs h l vs → ∀ {i : Nat} {v : Value}, vs[i]? = some v → ∃ a, l[i]? = some a ∧ VR h a v
  | [], _, e, _, _, ha => by simp only [VRs] at e; subst e; simp at ha
  | x :: l, vs, e, i, a, ha => by
    simp only [VRs] at e
    obtain ⟨v, r, rfl, h1, h2⟩ := e
    cases i with
    | zero => simp at ha; subst ha; exact ⟨x, rfl, h1⟩
    | succ i => simpa using h2.get' (by simpa using ha)
theorem VRs.append {h : Heap} : ∀ {l l' : List AV} {vs vs' : List Value}, VRs h l vs → VRs h l' vs' → VRs h (l ++ l') (vs ++ vs')
  | [], _, _, _, e, f => by simp only [VRs] at e; subst e; simpa using f
  | _ :: _, _, _, _, e, f => by
    simp only [VRs] at e
    obtain ⟨v, r, rfl, h1, h2⟩ := e
    exact VRs.cons h1 (h2.append f)
theorem VRs.one {h : Heap} {x : AV} {v : Value} (a : VR h x v) : VRs h [x] [v] := .cons a .nil
theorem VRs.take {h : Heap} : ∀ {l : List AV} {vs : List Value} (n : Nat), VRs h l vs → VRs h (l.take n) (vs.take n)
  | [], _, n, e => by simp only [VRs] at e; subst e; simpa using VRs.nil
  | _ :: _, _, 0, _ => by simpa using VRs.nil
  | _ :: _, _, n + 1, e => by
    simp only [VRs] at e
    obtain ⟨v, r, rfl, h1, h2⟩ := e
    simpa using VRs.cons h1 (h2.take n)
/-- an option of both worlds -/
noncomputable def OVR (h : Heap) : Option AV → Option Value → Prop
  | .none, v => v = .none
  | .some a, v => ∃ x, v = some x ∧ VR h a x
theorem OVR.keep {h h' : Heap} (k : ∀ a items, IsTup h a items → IsTup h' a items) {a : Option AV} {v : Option Value} (e : OVR h a v) : OVR h' a v := by
  cases a with
  | none => exact e
  | some a => obtain ⟨x, rfl, y⟩ := e; exact ⟨x, rfl, y.keep k⟩
/-- the names of a block, in their order, and what stands under each -/
noncomputable def getN (names : List Str) (vals : List (Option AV)) (x : Str) : Option AV := match names.findIdx? (· == x) with
  | some i => (vals[i]?).join
  | none => none
noncomputable def NIx (names : List Str) (x : Str) (i : Nat) : Prop := names.findIdx? (· == x) = some i
inductive GetAt : List (Option AV) → Nat → AV → Prop
  | here {v r} : GetAt (some v :: r) 0 v
  | there {p r i v} : GetAt r i v → GetAt (p :: r) (i + 1) v
inductive SetAt : List (Option AV) → Nat → AV → List (Option AV) → Prop
  | nil0 {v} : SetAt [] 0 v [some v]
  | nilS {i v r} : SetAt [] i v r → SetAt [] (i + 1) v (none :: r)
  | here {p r v} : SetAt (p :: r) 0 v (some v :: r)
  | there {p r i v r'} : SetAt r i v r' → SetAt (p :: r) (i + 1) v (p :: r')
theorem GetAt.get {m : List (Option AV)} {i : Nat} {v : AV} (g : GetAt m i v) : (m[i]?).join = some v := by
  induction g with
  | here => rfl
  | there _ ih => simpa using ih
theorem SetAt.get {m m' : List (Option AV)} {i : Nat} {v : AV} (g : SetAt m i v m') : ∀ j, (m'[j]?).join = if j = i then some v else (m[j]?).join := by
  induction g with
  | nil0 => intro j; cases j <;> simp
  | nilS _ ih => intro j; cases j with
    | zero => simp
    | succ j => simpa using ih j
  | here => intro j; cases j <;> simp
  | there _ ih => intro j; cases j with
    | zero => simp
    | succ j => simpa using ih j
theorem getN_get {names : List Str} {vals : List (Option AV)} {x : Str} {i : Nat} {v : AV} (n : NIx names x i) (g : GetAt vals i v) : getN names vals x = some v := by
  unfold getN; rw [show names.findIdx? (· == x) = some i from n]; exact g.get
theorem getN_set {names : List Str} {vals vals' : List (Option AV)} {x : Str} {i : Nat} {v : AV} (n : NIx names x i) (g : SetAt vals i v vals') (y : Str) :
    getN names vals' y = if y = x then some v else getN names vals y := by
  by_cases h : y = x
  · subst h
    rw [if_pos rfl]; unfold getN
    rw [show names.findIdx? (· == y) = some i from n]
    show (vals'[i]?).join = _
    rw [g.get i, if_pos rfl]
  · rw [if_neg h]
    unfold getN
    cases q : names.findIdx? (· == y) with
    | none => rfl
    | some j =>
      have hj : j ≠ i := by
        rintro rfl
        obtain ⟨hlt, hp, _⟩ := List.findIdx?_eq_some_iff_getElem.mp q
        obtain ⟨hlt', hp', _⟩ := List.findIdx?_eq_some_iff_getElem.mp n
        have := eq_of_beq hp; have := eq_of_beq hp'
        simp_all
      show (vals'[j]?).join = (vals[j]?).join
      rw [g.get j, if_neg hj]
noncomputable def NsR (h : Heap) (a : Addr) (names : List Str) (vals : List (Option AV)) : Prop := ∃ mr, h.Ns a mr ∧ ∀ x, OVR h (getN names vals x) (mr x)
/-- the same of an instance's own dict: and it is no longer than what stands in it -/
noncomputable def NsO (h : Heap) (a : Addr) (names : List Str) (vals : List (Option AV)) : Prop :=
  ∃ o es ep, h.get? a = some o ∧ o.data = .dict es ep ∧ StrKeys es ∧ (∀ x, OVR h (getN names vals x) (nsFind es x)) ∧ es.size ≤ vals.countP (·.isSome)
theorem SetAt.count {m m' : List (Option AV)} {i : Nat} {v : AV} (g : SetAt m i v m') : m'.countP (·.isSome) = m.countP (·.isSome) + (if (m[i]?).join.isSome then 0 else 1) := by
  induction g with
  | nil0 => simp
  | nilS _ ih => simpa using ih
  | @here p r v => cases p <;> simp
  | there _ ih => simp only [List.countP_cons, ih, List.getElem?_cons_succ]; omega
theorem SetAt.len {m m' : List (Option AV)} {i : Nat} {v : AV} (g : SetAt m i v m') : m'.length ≤ max m.length (i + 1) := by
  induction g with
  | nil0 => simp
  | nilS _ ih => simp only [List.length_cons, List.length_nil] at *; omega
  | @here p r v => simp only [List.length_cons] at *; omega
  | there _ ih => simp only [List.length_cons] at *; omega
inductive AO where
  | list (l : List AV)
  | dS (kvs : List (Str × AV)) | dI (kvs : List (Int × AV)) | dT (kvs : List (List Int × AV))
  | inst (C dx : Addr)
  | ns (names : List Str) (vals : List (Option AV))
  | rng (a b : Int)
  | exc (C : Addr) (dx : Option Addr)
  | held (C dx : Addr)
  | cell (v : Option AV)
structure Gl where
  prog : Program
  w : World
  W0 : Heap
  K : Frag
  os0 : OsState
noncomputable abbrev Hp := List (Addr × AO)
noncomputable abbrev Loc := List (Option AV)
inductive PR {κ : Type} (h : Heap) : List (κ × AV) → List (κ × Value) → Prop
  | nil : PR h [] []
  | cons {k x v l r} : VR h x v → PR h l r → PR h ((k, x) :: l) ((k, v) :: r)
inductive PRH {κ : Type} (h : Heap) : List (κ × AV) → List (κ × Addr × Value) → Prop
  | nil : PRH h [] []
  | cons {k x a v l r} : VR h x v → PRH h l r → PRH h ((k, x) :: l) ((k, a, v) :: r)
theorem PR.keep {κ : Type} {h h' : Heap} (k : ∀ a items, IsTup h a items → IsTup h' a items) {l : List (κ × AV)} {r} (e : PR h l r) : PR h' l r := by
  induction e with
  | nil => exact .nil
  | cons a _ ih => exact .cons (a.keep k) ih
theorem PRH.keep {κ : Type} {h h' : Heap} (k : ∀ a items, IsTup h a items → IsTup h' a items) {l : List (κ × AV)} {r} (e : PRH h l r) : PRH h' l r := by
  induction e with
  | nil => exact .nil
  | cons a _ ih => exact .cons (a.keep k) ih
/-- an exception that nobody has raised yet -/
noncomputable def excObj (C : Addr) (dx : Option Addr) (t : Addr) : Obj := { cls := .ref C, dict := dx, data := .fields #[.ref t, .none, .none, .none, .bool false, .none] }
noncomputable def listO (items : List Value) (n : Nat) : Obj := { cls := .type "list", data := .seq items.toArray n }
noncomputable def ORel (G : Gl) (h : Heap) (a : Addr) : AO → Prop
  | .list l => ∃ items n, h.get? a = some (listO items n) ∧ VRs h l items
  | .dS kvs => ∃ r, h.DictOf (strKind G.prog G.w) a r ∧ PR h kvs r
  | .dI kvs => ∃ r, h.DictOf (intKind G.prog G.w) a r ∧ PR h kvs r
  | .dT kvs => ∃ r, h.DictOfH (tupleKind (intKind G.prog G.w)) a r ∧ PRH h kvs r
  | .inst C dx => h.get? a = some (instObj C dx)
  | .ns names vals => NsO h a names vals
  | .rng x y => ∃ t u v, IsRange h a x y 1 t u v
  | .exc C dx => ∃ t, h.get? a = some (excObj C dx t)
  | .held C dx => ∃ o vs, h.get? a = some o ∧ o.cls = .ref C ∧ o.dict = some dx ∧ o.data = .fields vs
  | .cell v => ∃ o w, h.get? a = some o ∧ o.data = .cell w ∧ OVR h v w
structure HRel (G : Gl) (σ : Hp) (h : Heap) : Prop where
  own : ∀ p ∈ σ, ORel G h p.1 p.2
  nd : (σ.map (·.1)).Nodup
  base : ∀ b o, G.W0.get? b = some o → h.get? b = some o
  apart : ∀ p ∈ σ, G.W0.get? p.1 = none
  lo : ∀ p ∈ σ, 2 ≤ p.1
structure Step (L : Addr) (σ σ' : Hp) (h h' : Heap) : Prop where
  keep : ∀ b o, b ∉ σ.map (·.1) → b ≠ L → h.get? b = some o → h'.get? b = some o
  new : ∀ b ∈ σ'.map (·.1), b ∈ σ.map (·.1) ∨ h.get? b = none
  noL : L ∉ σ'.map (·.1)
theorem Step.refl {L : Addr} {σ : Hp} (n : L ∉ σ.map (·.1)) (h : Heap) : Step L σ σ h h := ⟨fun _ _ _ _ e => e, fun _ e => .inl e, n⟩
theorem Step.trans {L : Addr} {σ₁ σ₂ σ₃ : Hp} {h₁ h₂ h₃ : Heap} (a : Step L σ₁ σ₂ h₁ h₂) (b : Step L σ₂ σ₃ h₂ h₃) : Step L σ₁ σ₃ h₁ h₃ := by
  refine ⟨fun x o hx hL e => b.keep x o (fun q => ?_) hL (a.keep x o hx hL e), fun x hx => ?_, b.noL⟩
  · rcases a.new x q with q | q
    · exact hx q
    · rw [e] at q; cases q
  · rcases b.new x hx with q | q
    · exact a.new x q
    · by_cases h : x ∈ σ₁.map (·.1)
      · exact .inl h
      · cases e : h₁.get? x with
        | none => exact .inr rfl
        | some o =>
          have hL : x ≠ L := by rintro rfl; exact b.noL hx
          rw [a.keep x o h hL e] at q; cases q
/-- a frame -/
structure Fx where
  G : Gl
  fd : FuncData
  L : Addr
  fa : Addr
  A : Around
  n : Nat
  /-- what stood at the start: the frames around, what was owned, the heap -/
  R : Option (List Env × List Addr × Heap)
  cells : List (Str × Addr)
  func : Option Addr
  fr : Option Addr
noncomputable def Fx.env (X : Fx) : Env := { callEnv X.fd X.L X.fa with cells := X.cells, func := X.func, frame := X.fr }
/-- the frame of a plain call -/
noncomputable abbrev Fx.mk0 (G : Gl) (fd : FuncData) (L fa : Addr) (A : Around) (n : Nat) (R : Option (List Env × List Addr × Heap)) : Fx := ⟨G, fd, L, fa, A, n, R, fd.closure, some fa, some L⟩
noncomputable def Fx.M (X : Fx) : Model := model X.G.prog X.G.w
noncomputable def Fx.names (X : Fx) : List Str := X.fd.scope.names.map (·.1)
structure GOk (G : Gl) : Prop where
  kin : G.K.In G.W0
  top : ∃ p loose mg mb, TopRead p loose mg mb G.W0
noncomputable def Rm (A : Around) (n : Nat) : Prop := A.depth + n < recursionLimit ∧ A.units + 5 * n + 20 < cLine ∧ (n = 0 ∨ A.handled = none)
theorem Rm.le {A : Around} {n k : Nat} (r : Rm A n) (h : k ≤ n) : Rm A k := ⟨by have := r.1; omega, by have := r.2.1; omega, r.2.2.imp (by omega) id⟩
structure FxOk (X : Fx) : Prop where
  g : GOk X.G
  room : Rm X.A X.n
  kind : X.fd.scope.kind = .function
  glob : X.fd.globals = mainGlobals
  blt : X.fd.builtins = builtinsNs
  lo : 2 ≤ X.L
  frm : ∀ p, X.R = some p → X.A.frames = some (X.env :: p.1) ∧ p.2.2.get? X.L = none ∧ X.fr = some X.L
/-- what a call keeps of what stood at its start -/
structure Frs (W0 : Heap) (p : List Env × List Addr × Heap) (σ : Hp) (h : Heap) : Prop where
  fr : ∀ e ∈ p.1, e.scope.kind ≠ .module ∧ ∃ L o o', e.frame = some L ∧ W0.get? L = none ∧ L ∉ p.2.1 ∧ p.2.2.get? L = some o ∧ h.get? L = some o' ∧ o'.data = o.data ∧ ∃ es n, o.data = .dict es n
  keep : ∀ b o, b ∉ p.2.1 → (∀ e ∈ p.1, e.frame ≠ some b) → p.2.2.get? b = some o → h.get? b = some o
  new : ∀ b ∈ σ.map (·.1), b ∈ p.2.1 ∨ p.2.2.get? b = none
theorem Frs.fresh {W0 : Heap} {p : List Env × List Addr × Heap} {σ : Hp} {h : Heap} (F : Frs W0 p σ h) {b : Addr} (e : h.get? b = none) : b ∈ p.2.1 ∨ p.2.2.get? b = none := by
  by_cases hb : b ∈ p.2.1
  · exact .inl hb
  refine .inr ?_
  cases q : p.2.2.get? b with
  | none => rfl
  | some o =>
    by_cases hf : ∀ e ∈ p.1, e.frame ≠ some b
    · rw [F.keep b o hb hf q] at e; cases e
    · obtain ⟨f, he, hq⟩ : ∃ e ∈ p.1, e.frame = some b := Classical.byContradiction fun z => hf fun e he q => z ⟨e, he, q⟩
      obtain ⟨_, L', _, o', h1, _, _, _, h5, _⟩ := F.fr f he
      obtain rfl : L' = b := Option.some.inj (h1.symm.trans hq)
      rw [h5] at e; cases e
theorem Frs.alter {W0 : Heap} {p : List Env × List Addr × Heap} {σ : Hp} {h h' : Heap} {it : Addr} (F : Frs W0 p σ h) (k : ∀ b o, b ≠ it → h.get? b = some o → h'.get? b = some o) (n : it ∈ p.2.1 ∨ p.2.2.get? it = none) : Frs W0 p σ h' := by
  have ne : ∀ b o, b ∉ p.2.1 → p.2.2.get? b = some o → b ≠ it := fun b o hb e q => by
    subst q
    rcases n with n | n
    · exact hb n
    · rw [e] at n; cases n
  refine ⟨fun e he => ?_, fun b o hb hf hp => k b o (ne b o hb hp) (F.keep b o hb hf hp), F.new⟩
  obtain ⟨k', L', o, o', h1, h2, h3, h4, h5, h6⟩ := F.fr e he
  exact ⟨k', L', o, o', h1, h2, h3, h4, k L' o' (ne L' o h3 h4) h5, h6⟩
theorem Frs.step {W0 : Heap} {p : List Env × List Addr × Heap} {L : Addr} {σ σ' : Hp} {h h' : Heap} (F : Frs W0 p σ h) (P : Step L σ σ' h h') (hL : p.2.2.get? L = none) : Frs W0 p σ' h' := by
  have out : ∀ b o, b ∉ p.2.1 → p.2.2.get? b = some o → b ∉ σ.map (·.1) ∧ b ≠ L := fun b o hb e => by
    refine ⟨fun q => ?_, fun q => ?_⟩
    · rcases F.new b q with h | h
      · exact hb h
      · rw [e] at h; cases h
    · rw [q, hL] at e; cases e
  refine ⟨fun e he => ?_, fun b o hb hf hp => ?_, fun b hb => ?_⟩
  · obtain ⟨k, L', o, o', h1, h2, h3, h4, h5, h6⟩ := F.fr e he
    obtain ⟨n1, n2⟩ := out L' o h3 h4
    exact ⟨k, L', o, o', h1, h2, h3, h4, P.keep L' o' n1 n2 h5, h6⟩
  · obtain ⟨n1, n2⟩ := out b o hb hp
    exact P.keep b o n1 n2 (F.keep b o hb hf hp)
  · rcases P.new b hb with h | h
    · exact F.new b h
    · exact F.fresh h
structure St (X : Fx) (m : Loc) (σ : Hp) (s : Shared) : Prop where
  ok : FxOk X
  hr : HRel X.G σ s.heap
  ns : NsR s.heap X.L X.names m
  noL : X.L ∉ σ.map (·.1)
  newL : X.G.W0.get? X.L = none
  gens : s.gens = #[]
  os : s.os = X.G.os0
  frs : ∀ p, X.R = some p → Frs X.G.W0 p σ s.heap
theorem St.frs' {X : Fx} {m : Loc} {σ σ' : Hp} {s : Shared} {h' : Heap} (S : St X m σ s) (P : Step X.L σ σ' s.heap h') : ∀ p, X.R = some p → Frs X.G.W0 p σ' h' := fun p hp => (S.frs p hp).step P (S.ok.frm p hp).2.1
theorem ORel.noTup {G : Gl} {h : Heap} {a : Addr} {o : AO} (r : ORel G h a o) {items : Array Value} : ¬ IsTup h a items := by
  rintro ⟨ob, ho, hc, n, hd⟩
  cases o with
  | list l => obtain ⟨i, n', e, _⟩ := r; rw [ho] at e; cases e; exact absurd hc (by simp [listO])
  | dS l => obtain ⟨i, ⟨o', es, ep, e, _, hd', _⟩, _⟩ := r; rw [ho] at e; cases e; rw [hd] at hd'; cases hd'
  | dI l => obtain ⟨i, ⟨o', es, ep, e, _, hd', _⟩, _⟩ := r; rw [ho] at e; cases e; rw [hd] at hd'; cases hd'
  | dT l => obtain ⟨i, ⟨o', es, ep, e, _, hd', _⟩, _⟩ := r; rw [ho] at e; cases e; rw [hd] at hd'; cases hd'
  | inst C dx => have e : h.get? a = some (instObj C dx) := r; rw [ho] at e; cases e; cases hc
  | ns n v => obtain ⟨o', es, ep, e, hd', _⟩ := r; rw [ho] at e; cases e; rw [hd] at hd'; cases hd'
  | rng x y => obtain ⟨t, u, v, e⟩ := r; have e : h.get? a = _ := e; rw [ho] at e; cases e; exact absurd hc (by simp)
  | exc C dx => obtain ⟨t, e⟩ := r; rw [ho] at e; cases e; exact absurd hc (by simp [excObj])
  | held C dx => obtain ⟨o', vs, e, h1, _⟩ := r; rw [ho] at e; cases e; rw [h1] at hc; cases hc
  | cell v => obtain ⟨o', w, e, h1, _⟩ := r; rw [ho] at e; cases e; rw [hd] at h1; cases h1
theorem NsR.noTup {h : Heap} {a : Addr} {n v} (r : NsR h a n v) {items : Array Value} : ¬ IsTup h a items := by
  rintro ⟨ob, ho, hc, n, hd⟩
  obtain ⟨mr, ⟨o', es, ep, e, hd', _⟩, _⟩ := r; rw [ho] at e; cases e; rw [hd] at hd'; cases hd'
theorem HRel.own_of {G : Gl} {σ : Hp} {h : Heap} (H : HRel G σ h) {a : Addr} (ha : a ∈ σ.map (·.1)) : ∃ o, (a, o) ∈ σ ∧ ORel G h a o := by
  obtain ⟨⟨b, o⟩, hp, rfl⟩ := List.mem_map.mp ha
  exact ⟨o, hp, H.own _ hp⟩
theorem St.tups {X : Fx} {m : Loc} {σ σ' : Hp} {s : Shared} {h' : Heap} (S : St X m σ s) (P : Step X.L σ σ' s.heap h') : ∀ a items, IsTup s.heap a items → IsTup h' a items := by
  rintro a items t
  have n1 : a ∉ σ.map (·.1) := fun q => by obtain ⟨o, _, r⟩ := S.hr.own_of q; exact r.noTup t
  have n2 : a ≠ X.L := by rintro rfl; exact S.ns.noTup t
  obtain ⟨o, ho, r⟩ := t
  exact ⟨o, P.keep a o n1 n2 ho, r⟩
theorem St.vr {X : Fx} {m : Loc} {σ σ' : Hp} {s : Shared} {h' : Heap} (S : St X m σ s) (P : Step X.L σ σ' s.heap h') {a : AV} {v : Value} (e : VR s.heap a v) : VR h' a v := e.keep (S.tups P)
theorem St.vrs {X : Fx} {m : Loc} {σ σ' : Hp} {s : Shared} {h' : Heap} (S : St X m σ s) (P : Step X.L σ σ' s.heap h') {a : List AV} {v : List Value} (e : VRs s.heap a v) : VRs h' a v := e.keep (S.tups P)
theorem St.toks {X : Fx} {m : Loc} {σ : Hp} {s : Shared} (S : St X m σ s) (t : Nat) : St X m σ { s with toks := t } := ⟨S.ok, S.hr, S.ns, S.noL, S.newL, S.gens, S.os, S.frs⟩
theorem St.kin {X : Fx} {m : Loc} {σ : Hp} {s : Shared} (S : St X m σ s) : X.G.K.In s.heap := S.ok.g.kin.keeps S.hr.base
/-- an exception on its way -/
noncomputable abbrev EPost := Value → Shared → Prop
noncomputable def EP (X : Fx) (σ : Hp) (EQ : EPost) (s : Shared) (e : Value) (s' : Shared) : Prop := EQ e s'
theorem EP.trans {X : Fx} {σ σ₁ : Hp} {EQ} {s s₁ s' : Shared} {e : Value} (P : Step X.L σ σ₁ s.heap s₁.heap) (h : EP X σ₁ EQ s₁ e s') : EP X σ EQ s e s' := h
noncomputable def EvAt (X : Fx) (t : Sem Value) (m : Loc) (σ : Hp) (EQ : EPost) (Q : AV → Hp → Prop) (s : Shared) : Prop :=
  wpAny X.M X.A t (fun v s' => ∃ a σ', VR s'.heap a v ∧ St X m σ' s' ∧ Step X.L σ σ' s.heap s'.heap ∧ Q a σ') (EP X σ EQ s) s
noncomputable def Ev (X : Fx) (t : Sem Value) (m : Loc) (σ : Hp) (EQ : EPost) (Q : AV → Hp → Prop) : Prop := ∀ s, St X m σ s → EvAt X t m σ EQ Q s
noncomputable def EvsAt (X : Fx) (t : Sem (List Value)) (m : Loc) (σ : Hp) (EQ : EPost) (Q : List AV → Hp → Prop) (s : Shared) : Prop :=
  wpAny X.M X.A t (fun v s' => ∃ a σ', VRs s'.heap a v ∧ St X m σ' s' ∧ Step X.L σ σ' s.heap s'.heap ∧ Q a σ') (EP X σ EQ s) s
noncomputable def Evs (X : Fx) (t : Sem (List Value)) (m : Loc) (σ : Hp) (EQ : EPost) (Q : List AV → Hp → Prop) : Prop := ∀ s, St X m σ s → EvsAt X t m σ EQ Q s
noncomputable def TtAt (X : Fx) (t : Sem Bool) (m : Loc) (σ : Hp) (EQ : EPost) (Q : Bool → Hp → Prop) (s : Shared) : Prop :=
  wpAny X.M X.A t (fun b s' => ∃ σ', St X m σ' s' ∧ Step X.L σ σ' s.heap s'.heap ∧ Q b σ') (EP X σ EQ s) s
noncomputable def Tt (X : Fx) (t : Sem Bool) (m : Loc) (σ : Hp) (EQ : EPost) (Q : Bool → Hp → Prop) : Prop := ∀ s, St X m σ s → TtAt X t m σ EQ Q s
inductive AF where
  | next | brk | cont | ret (a : AV)
noncomputable def FR (h : Heap) : AF → Flow → Prop
  | .next, f => f = .next
  | .brk, f => f = .brk
  | .cont, f => f = .cont
  | .ret a, f => ∃ v, f = .ret v ∧ VR h a v
noncomputable def XsAt (X : Fx) (t : Sem Flow) (m : Loc) (σ : Hp) (EQ : EPost) (Q : AF → Loc → Hp → Prop) (s : Shared) : Prop :=
  wpAny X.M X.A t (fun f s' => ∃ g m' σ', FR s'.heap g f ∧ St X m' σ' s' ∧ Step X.L σ σ' s.heap s'.heap ∧ Q g m' σ') (EP X σ EQ s) s
noncomputable def Xs (X : Fx) (t : Sem Flow) (m : Loc) (σ : Hp) (EQ : EPost) (Q : AF → Loc → Hp → Prop) : Prop := ∀ s, St X m σ s → XsAt X t m σ EQ Q s
section
variable {X : Fx} {m : Loc} {σ : Hp} {EQ : EPost}
/-- the value is here -/
theorem done {v : Value} {s : Shared} {a : AV} {Q : AV → Hp → Prop} (S : St X m σ s) (h : VR s.heap a v) (q : Q a σ) :
    ∃ a σ', VR s.heap a v ∧ St X m σ' s ∧ Step X.L σ σ' s.heap s.heap ∧ Q a σ' := ⟨a, σ, h, S, .refl S.noL _, q⟩
theorem doneT {v : Value} {s : Shared} {a : AV} {Q : AV → Hp → Prop} {tk : Nat} (S : St X m σ s) (h : VR s.heap a v) (q : Q a σ) :
    ∃ a σ', VR ({ s with toks := tk } : Shared).heap a v ∧ St X m σ' { s with toks := tk } ∧ Step X.L σ σ' s.heap ({ s with toks := tk } : Shared).heap ∧ Q a σ' := ⟨a, σ, h, S.toks _, .refl S.noL _, q⟩
end
open PySem PySem.W PySem.Calls PyProof.Rows
section
variable {X : Fx} {m : Loc} {σ : Hp} {EQ : EPost}
theorem ev_then {t : Sem Value} {Q : AV → Hp → Prop} {s : Shared} (h : EvAt X t m σ EQ Q s) {Q' : Value → Shared → Prop} {E' : Value → Shared → Prop}
    (k : ∀ v s' a σ', VR s'.heap a v → St X m σ' s' → Step X.L σ σ' s.heap s'.heap → Q a σ' → Q' v s') (ke : ∀ e s', EP X σ EQ s e s' → E' e s') : wpAny X.M X.A t Q' E' s :=
  wpAny_mono h (fun v s' ⟨a, σ', h1, h2, h3, h4⟩ => k v s' a σ' h1 h2 h3 h4) ke
theorem evs_then {t : Sem (List Value)} {Q : List AV → Hp → Prop} {s : Shared} (h : EvsAt X t m σ EQ Q s) {Q' : List Value → Shared → Prop} {E' : Value → Shared → Prop}
    (k : ∀ v s' a σ', VRs s'.heap a v → St X m σ' s' → Step X.L σ σ' s.heap s'.heap → Q a σ' → Q' v s') (ke : ∀ e s', EP X σ EQ s e s' → E' e s') : wpAny X.M X.A t Q' E' s :=
  wpAny_mono h (fun v s' ⟨a, σ', h1, h2, h3, h4⟩ => k v s' a σ' h1 h2 h3 h4) ke
theorem tt_then {t : Sem Bool} {Q : Bool → Hp → Prop} {s : Shared} (h : TtAt X t m σ EQ Q s) {Q' : Bool → Shared → Prop} {E' : Value → Shared → Prop}
    (k : ∀ b s' σ', St X m σ' s' → Step X.L σ σ' s.heap s'.heap → Q b σ' → Q' b s') (ke : ∀ e s', EP X σ EQ s e s' → E' e s') : wpAny X.M X.A t Q' E' s :=
  wpAny_mono h (fun b s' ⟨σ', h2, h3, h4⟩ => k b s' σ' h2 h3 h4) ke
theorem xs_then {t : Sem Flow} {Q : AF → Loc → Hp → Prop} {s : Shared} (h : XsAt X t m σ EQ Q s) {Q' : Flow → Shared → Prop} {E' : Value → Shared → Prop}
    (k : ∀ f s' g m' σ', FR s'.heap g f → St X m' σ' s' → Step X.L σ σ' s.heap s'.heap → Q g m' σ' → Q' f s') (ke : ∀ e s', EP X σ EQ s e s' → E' e s') : wpAny X.M X.A t Q' E' s :=
  wpAny_mono h (fun f s' ⟨g, m', σ', h1, h2, h3, h4⟩ => k f s' g m' σ' h1 h2 h3 h4) ke
/-- from a later state -/
theorem ev_from {t : Sem Value} {Q : AV → Hp → Prop} {s s₁ : Shared} {σ₁ : Hp} (P : Step X.L σ σ₁ s.heap s₁.heap) (h : EvAt X t m σ₁ EQ Q s₁) :
    wpAny X.M X.A t (fun v s' => ∃ a σ', VR s'.heap a v ∧ St X m σ' s' ∧ Step X.L σ σ' s.heap s'.heap ∧ Q a σ') (EP X σ EQ s) s₁ :=
  wpAny_mono h (fun v s' ⟨a, σ', h1, h2, h3, h4⟩ => ⟨a, σ', h1, h2, P.trans h3, h4⟩) fun e s' h => h.trans P
theorem tt_from {t : Sem Bool} {Q : Bool → Hp → Prop} {s s₁ : Shared} {σ₁ : Hp} (P : Step X.L σ σ₁ s.heap s₁.heap) (h : TtAt X t m σ₁ EQ Q s₁) :
    wpAny X.M X.A t (fun b s' => ∃ σ', St X m σ' s' ∧ Step X.L σ σ' s.heap s'.heap ∧ Q b σ') (EP X σ EQ s) s₁ :=
  wpAny_mono h (fun v s' ⟨σ', h2, h3, h4⟩ => ⟨σ', h2, P.trans h3, h4⟩) fun e s' h => h.trans P
theorem xs_from {t : Sem Flow} {m₁ : Loc} {Q : AF → Loc → Hp → Prop} {s s₁ : Shared} {σ₁ : Hp} (P : Step X.L σ σ₁ s.heap s₁.heap) (h : XsAt X t m₁ σ₁ EQ Q s₁) :
    wpAny X.M X.A t (fun f s' => ∃ g m' σ', FR s'.heap g f ∧ St X m' σ' s' ∧ Step X.L σ σ' s.heap s'.heap ∧ Q g m' σ') (EP X σ EQ s) s₁ :=
  wpAny_mono h (fun v s' ⟨a, m', σ', h1, h2, h3, h4⟩ => ⟨a, m', σ', h1, h2, P.trans h3, h4⟩) fun e s' h => h.trans P
/-! constants, names -/
theorem Ev.int {i : Int} {k pos} {Q : AV → Hp → Prop} (q : Q (.int i) σ) : Ev X (eval (.Constant (.int i) k pos) X.env) m σ EQ Q :=
  fun s S => wpAny_Constant_int (doneT S .intI q)
theorem Ev.str {x : Str} {k pos} {Q : AV → Hp → Prop} (q : Q (.str x) σ) : Ev X (eval (.Constant (.str x) k pos) X.env) m σ EQ Q :=
  fun s S => Constant_str (doneT S .strI q)
theorem Ev.boolc {b : Bool} {k pos} {Q : AV → Hp → Prop} (q : Q (.bool b) σ) : Ev X (eval (.Constant (.bool b) k pos) X.env) m σ EQ Q :=
  fun s S => Constant_bool (done S .boolI q)
theorem Ev.nonec {k pos} {Q : AV → Hp → Prop} (q : Q .none σ) : Ev X (eval (.Constant .none k pos) X.env) m σ EQ Q :=
  fun s S => Constant_none (done S .noneI q)
/-- a local name of the block fd, at place i -/
structure Lc (fd : FuncData) (x : Str) (i : Nat) : Prop where
  ix : NIx (fd.scope.names.map (·.1)) x i
  kind : fd.scope.names.lookup x = some .local
  dbg : (x == ("__debug__" : Str)) = false
structure Gb (fd : FuncData) (x : Str) : Prop where
  kind : fd.scope.names.lookup x = some .globalImplicit
  dbg : (x == ("__debug__" : Str)) = false
theorem Ev.name {x : Str} {i : Nat} {a : AV} {pos} {Q : AV → Hp → Prop} (l : Lc X.fd x i) (g : GetAt m i a) (q : Q a σ) : Ev X (eval (.Name x pos) X.env) m σ EQ Q := by
  intro s S
  obtain ⟨mr, hn, hm⟩ := S.ns
  have h := hm x
  rw [show getN X.names m x = some a from getN_get l.ix g] at h
  obtain ⟨v, hv, r⟩ := h
  exact wpAny_Name (wpAny_loadName_local S.ok.kind l.kind hn hv (done S r q)) l.dbg
theorem Ev.glob {x : Str} {v : Value} {a : AV} {pos} {Q : AV → Hp → Prop} (l : Gb X.fd x) (e : nsIn X.G.K mainGlobals x = some (some v)) (ha : ∀ h, VR h a v) (q : Q a σ) :
    Ev X (eval (.Name x pos) X.env) m σ EQ Q := by
  intro s S
  obtain ⟨p, lo, mg, mb, T⟩ := S.ok.g.top
  refine Name_function_global (env := X.env) S.ok.kind l.kind (loadGlobal_global (env := X.env) (mg := mg) ?_ (mg_of S.ok.g.kin T.g e) (done S (ha _) q)) l.dbg
  show s.heap.Ns X.fd.globals mg
  rw [S.ok.glob]; exact T.g.keeps S.hr.base
theorem Ev.blt {x : Str} {v : Value} {pos} {Q : AV → Hp → Prop} (l : Gb X.fd x) (e : nsIn X.G.K mainGlobals x = some none) (hv : bootBuiltins x = some v) (hn : x ≠ "__name__") (q : Q (.oth v) σ) :
    Ev X (eval (.Name x pos) X.env) m σ EQ Q := by
  intro s S
  obtain ⟨p, lo, mg, mb, T⟩ := S.ok.g.top
  refine Name_function_global (env := X.env) S.ok.kind l.kind (loadGlobal_builtin (env := X.env) (mg := mg) (mb := mb) ?_ (mg_none_of S.ok.g.kin T.g e) ?_ ((T.builtins x hn).trans hv)
    (done S .othI q)) l.dbg
  · show s.heap.Ns X.fd.globals mg
    rw [S.ok.glob]; exact T.g.keeps S.hr.base
  · show s.heap.Ns X.fd.builtins mb
    rw [S.ok.blt]; exact T.b.keeps S.hr.base
/-! operators -/
/-- both sides, then the operation -/
noncomputable def Op2 (X : Fx) (m : Loc) (σ : Hp) (EQ : EPost) (f : Value → Value → Sem Value) (a b : AV) (Q : AV → Hp → Prop) : Prop :=
  ∀ v w s, St X m σ s → VR s.heap a v → VR s.heap b w → EvAt X (f v w) m σ EQ Q s
theorem Ev.bin {l op r pos} {Q : AV → Hp → Prop}
    (h : Ev X (eval l X.env) m σ EQ fun a σ₁ => Ev X (eval r X.env) m σ₁ EQ fun b σ₂ => Op2 X m σ₂ EQ (binaryOp op) a b Q) :
    Ev X (eval (.BinOp l op r pos) X.env) m σ EQ Q := by
  intro s S
  refine wpAny_BinOp (ev_then (h s S) (fun v s₁ a σ₁ r₁ S₁ P₁ h₁ => ?_) fun _ _ e => e)
  refine ev_then (h₁ s₁ S₁) (fun w s₂ b σ₂ r₂ S₂ P₂ h₂ => ?_) fun _ _ e => e.trans P₁
  exact ev_from (P₁.trans P₂) (h₂ v w s₂ S₂ (S₁.vr P₂ r₁) r₂)
theorem Ev.cmp {l op r pos} {Q : AV → Hp → Prop} (hm : behindInMarks op r = false)
    (h : Ev X (eval l X.env) m σ EQ fun a σ₁ => Ev X (eval r X.env) m σ₁ EQ fun b σ₂ => Op2 X m σ₂ EQ (compareOp op) a b Q) :
    Ev X (eval (.Compare l [op] [r] pos) X.env) m σ EQ Q := by
  intro s S
  refine wpAny_Compare1 (ev_then (h s S) (fun v s₁ a σ₁ r₁ S₁ P₁ h₁ => ?_) fun _ _ e => e) hm
  refine ev_then (h₁ s₁ S₁) (fun w s₂ b σ₂ r₂ S₂ P₂ h₂ => ?_) fun _ _ e => e.trans P₁
  exact ev_from (P₁.trans P₂) (h₂ v w s₂ S₂ (S₁.vr P₂ r₁) r₂)
variable {a b : Int} {Q : AV → Hp → Prop}
theorem Op2.add (q : Q (.int (a + b)) σ) : Op2 X m σ EQ (binaryOp .Add) (.int a) (.int b) Q := by
  intro _ _ s S r₁ r₂; obtain ⟨t, rfl⟩ := r₁.intE; obtain ⟨u, rfl⟩ := r₂.intE; exact PyProof.Rows.add_int (doneT S .intI q)
theorem Op2.sub (q : Q (.int (a - b)) σ) : Op2 X m σ EQ (binaryOp .Sub) (.int a) (.int b) Q := by
  intro _ _ s S r₁ r₂; obtain ⟨t, rfl⟩ := r₁.intE; obtain ⟨u, rfl⟩ := r₂.intE; exact PyProof.Rows.sub_int (doneT S .intI q)
theorem Op2.mul (hk : IntMulOk a b) (q : Q (.int (a * b)) σ) : Op2 X m σ EQ (binaryOp .Mult) (.int a) (.int b) Q := by
  intro _ _ s S r₁ r₂; obtain ⟨t, rfl⟩ := r₁.intE; obtain ⟨u, rfl⟩ := r₂.intE; exact PyProof.Rows.mul_int (doneT S .intI q) hk
theorem Op2.mod (hb : b ≠ 0) (q : Q (.int (a.fmod b)) σ) : Op2 X m σ EQ (binaryOp .Mod) (.int a) (.int b) Q := by
  intro _ _ s S r₁ r₂; obtain ⟨t, rfl⟩ := r₁.intE; obtain ⟨u, rfl⟩ := r₂.intE; exact PyProof.Rows.mod_int' hb (doneT S .intI q)
theorem Op2.fdiv (hb : b ≠ 0) (hp : Builtin.divisionGoesByPylong a b = false) (q : Q (.int (a.fdiv b)) σ) : Op2 X m σ EQ (binaryOp .FloorDiv) (.int a) (.int b) Q := by
  intro _ _ s S r₁ r₂; obtain ⟨t, rfl⟩ := r₁.intE; obtain ⟨u, rfl⟩ := r₂.intE; exact PyProof.Rows.floordiv_int hb (doneT S .intI q) (.inl hp)
theorem Op2.lt (q : Q (.bool (decide (a < b))) σ) : Op2 X m σ EQ (compareOp .Lt) (.int a) (.int b) Q := by
  intro _ _ s S r₁ r₂; obtain ⟨t, rfl⟩ := r₁.intE; obtain ⟨u, rfl⟩ := r₂.intE; exact PyProof.Rows.lt_int (done S .boolI q)
theorem Op2.le (q : Q (.bool (decide (a ≤ b))) σ) : Op2 X m σ EQ (compareOp .LtE) (.int a) (.int b) Q := by
  intro _ _ s S r₁ r₂; obtain ⟨t, rfl⟩ := r₁.intE; obtain ⟨u, rfl⟩ := r₂.intE; exact PyProof.Rows.le_int (done S .boolI q)
theorem Op2.eqi (q : Q (.bool (a == b)) σ) : Op2 X m σ EQ (compareOp .Eq) (.int a) (.int b) Q := by
  intro _ _ s S r₁ r₂; obtain ⟨t, rfl⟩ := r₁.intE; obtain ⟨u, rfl⟩ := r₂.intE; exact PyProof.Rows.eq_int (done S .boolI q)
end
open PySem PySem.W PySem.Calls PyProof.Rows PySem.SeqAt
mutual
noncomputable def AV.eqv : AV → AV → Bool
  | .bool a, .bool b => a == b
  | .int a, .int b => a == b
  | .str a, .str b => a == b
  | .tup l, .tup r => eqvs l r
  | _, _ => false
noncomputable def eqvs : List AV → List AV → Bool
  | [], [] => true
  | a :: l, b :: r => a.eqv b && eqvs l r
  | _, _ => false
end
mutual
/-- plain data, n deep at most -/
noncomputable def AV.pl : Nat → AV → Bool
  | _, .int _ => true
  | _, .str _ => true
  | n + 1, .tup l => pls n l
  | _, _ => false
noncomputable def pls : Nat → List AV → Bool
  | _, [] => true
  | n, a :: l => a.pl n && pls n l
end
theorem eqvs_len : ∀ {l r : List AV}, eqvs l r = true → l.length = r.length
  | [], [], _ => rfl
  | [], _ :: _, h => by simp [eqvs] at h
  | _ :: _, [], h => by simp [eqvs] at h
  | _ :: l, _ :: r, h => by simp [eqvs] at h; simp [eqvs_len h.2]
noncomputable def eqIx (l r : List AV) (i : Nat) : Bool := match l[i]?, r[i]? with
  | some a, some b => a.eqv b
  | _, _ => false
theorem eqIx_of {l r : List AV} {i : Nat} (h1 : i < l.length) (h2 : i < r.length) : eqIx l r i = l[i].eqv r[i] := by
  unfold eqIx; rw [List.getElem?_eq_getElem h1, List.getElem?_eq_getElem h2]
theorem eqIx_succ (a b : AV) (l r : List AV) (i : Nat) : eqIx (a :: l) (b :: r) (i + 1) = eqIx l r i := by unfold eqIx; simp
theorem eqIx_zero (a b : AV) (l r : List AV) : eqIx (a :: l) (b :: r) 0 = a.eqv b := by unfold eqIx; simp
theorem eqvs_all : ∀ (l r : List AV), eqvs l r = ((List.range (min l.length r.length)).all (eqIx l r) && l.length == r.length)
  | [], [] => by simp [eqvs]
  | [], _ :: _ => by simp [eqvs]
  | _ :: _, [] => by simp [eqvs]
  | a :: l, b :: r => by
    have ih := eqvs_all l r
    simp only [eqvs, ih, List.length_cons, Nat.add_min_add_right, List.range_succ_eq_map, List.all_cons, List.all_map, Function.comp_def, eqIx_succ, eqIx_zero]
    simp [Bool.and_assoc]
mutual
theorem eqv_iff : ∀ (n k : Nat) (a b : AV), a.pl n = true → b.pl k = true → (a.eqv b = true ↔ a = b)
  | _, _, .int a, .int b, _, _ => by simp [AV.eqv]
  | _, _, .str a, .str b, _, _ => by simp [AV.eqv]
  | n + 1, k + 1, .tup l, .tup r, h, h' => by simp only [AV.pl] at h h'; simp only [AV.eqv, AV.tup.injEq]; exact eqvs_iff n k l r h h'
  | _, _, .int _, .str _, _, _ => by simp [AV.eqv]
  | _, _, .int _, .tup _, _, _ => by simp [AV.eqv]
  | _, _, .str _, .int _, _, _ => by simp [AV.eqv]
  | _, _, .str _, .tup _, _, _ => by simp [AV.eqv]
  | _, _, .tup _, .int _, _, _ => by simp [AV.eqv]
  | _, _, .tup _, .str _, _, _ => by simp [AV.eqv]
  | 0, _, .tup _, .tup _, h, _ => by simp [AV.pl] at h
  | _, 0, .tup _, .tup _, _, h => by simp [AV.pl] at h
  | _, _, .none, _, h, _ => by simp [AV.pl] at h
  | _, _, .bool _, _, h, _ => by simp [AV.pl] at h
  | _, _, .ref _, _, h, _ => by simp [AV.pl] at h
  | _, _, .oth _, _, h, _ => by simp [AV.pl] at h
  | _, _, _, .none, _, h => by simp [AV.pl] at h
  | _, _, _, .bool _, _, h => by simp [AV.pl] at h
  | _, _, _, .ref _, _, h => by simp [AV.pl] at h
  | _, _, _, .oth _, _, h => by simp [AV.pl] at h
theorem eqvs_iff : ∀ (n k : Nat) (l r : List AV), pls n l = true → pls k r = true → (eqvs l r = true ↔ l = r)
  | _, _, [], [], _, _ => by simp [eqvs]
  | _, _, [], _ :: _, _, _ => by simp [eqvs]
  | _, _, _ :: _, [], _, _ => by simp [eqvs]
  | n, k, a :: l, b :: r, h, h' => by
    simp only [pls, Bool.and_eq_true] at h h'
    simp only [eqvs, Bool.and_eq_true, List.cons.injEq, eqv_iff n k a b h.1 h'.1, eqvs_iff n k l r h.2 h'.2]
end
theorem pls_get {n : Nat} : ∀ {l : List AV}, pls n l = true → ∀ {j : Nat} (h : j < l.length), l[j].pl n = true
  | [], _, _, h => by simp at h
  | a :: l, p, 0, _ => by simp only [pls, Bool.and_eq_true] at p; exact p.1
  | a :: l, p, j + 1, h => by simp only [pls, Bool.and_eq_true] at p; simpa using pls_get p.2 (by simpa using h)
mutual
/-- one value, two readings: the same data -/
theorem vr_fun : ∀ {n k : Nat} {a b : AV} {v : Value} {h : Heap}, a.pl n = true → b.pl k = true → VR h a v → VR h b v → a.eqv b = true
  | n + 1, k + 1, .tup l, .tup r, v, h, p, p', q, q' => by
    obtain ⟨a, is, rfl, t, z⟩ := q.tupE
    obtain ⟨b, js, e, t', z'⟩ := q'.tupE
    cases e
    obtain ⟨o, ho, _, n1, hd⟩ := t
    obtain ⟨o', ho', _, n2, hd'⟩ := t'
    rw [ho] at ho'; cases ho'
    rw [hd] at hd'
    have hij : is = js := by injection hd' with e _; simpa using congrArg Array.toList e
    subst hij
    simp only [AV.pl] at p p'
    simp only [AV.eqv]
    exact vrs_fun p p' z z'
  | _, _, .int a, .int b, _, _, _, _, q, q' => by obtain ⟨_, rfl⟩ := q.intE; obtain ⟨_, e⟩ := q'.intE; cases e; simp [AV.eqv]
  | _, _, .str a, .str b, _, _, _, _, q, q' => by obtain ⟨_, rfl⟩ := q.strE; obtain ⟨_, e⟩ := q'.strE; cases e; simp [AV.eqv]
  | _, _, .int _, .str _, _, _, _, _, q, q' => by obtain ⟨_, rfl⟩ := q.intE; obtain ⟨_, e⟩ := q'.strE; cases e
  | _, _, .int _, .tup _, _, _, _, _, q, q' => by obtain ⟨_, rfl⟩ := q.intE; obtain ⟨_, _, e, _⟩ := q'.tupE; cases e
  | _, _, .str _, .int _, _, _, _, _, q, q' => by obtain ⟨_, rfl⟩ := q.strE; obtain ⟨_, e⟩ := q'.intE; cases e
  | _, _, .str _, .tup _, _, _, _, _, q, q' => by obtain ⟨_, rfl⟩ := q.strE; obtain ⟨_, _, e, _⟩ := q'.tupE; cases e
  | _, _, .tup _, .int _, _, _, _, _, q, q' => by obtain ⟨_, _, rfl, _⟩ := q.tupE; obtain ⟨_, e⟩ := q'.intE; cases e
  | _, _, .tup _, .str _, _, _, _, _, q, q' => by obtain ⟨_, _, rfl, _⟩ := q.tupE; obtain ⟨_, e⟩ := q'.strE; cases e
  | 0, _, .tup _, .tup _, _, _, h, _, _, _ => by simp [AV.pl] at h
  | _, 0, .tup _, .tup _, _, _, _, h, _, _ => by simp [AV.pl] at h
  | _, _, .none, _, _, _, h, _, _, _ => by simp [AV.pl] at h
  | _, _, .bool _, _, _, _, h, _, _, _ => by simp [AV.pl] at h
  | _, _, .ref _, _, _, _, h, _, _, _ => by simp [AV.pl] at h
  | _, _, .oth _, _, _, _, h, _, _, _ => by simp [AV.pl] at h
  | _, _, _, .none, _, _, _, h, _, _ => by simp [AV.pl] at h
  | _, _, _, .bool _, _, _, _, h, _, _ => by simp [AV.pl] at h
  | _, _, _, .ref _, _, _, _, h, _, _ => by simp [AV.pl] at h
  | _, _, _, .oth _, _, _, _, h, _, _ => by simp [AV.pl] at h
theorem vrs_fun : ∀ {n k : Nat} {l r : List AV} {vs : List Value} {h : Heap}, pls n l = true → pls k r = true → VRs h l vs → VRs h r vs → eqvs l r = true
  | _, _, [], [], _, _, _, _, _, _ => by simp [eqvs]
  | _, _, [], _ :: _, _, _, _, _, z, z' => by obtain rfl := z.nilE; obtain ⟨_, _, e, _⟩ := z'.consE; cases e
  | _, _, _ :: _, [], _, _, _, _, z, z' => by obtain rfl := z'.nilE; obtain ⟨_, _, e, _⟩ := z.consE; cases e
  | n, k, a :: l, b :: r, _, _, p, p', z, z' => by
    obtain ⟨v, vs, rfl, r1, r2⟩ := z.consE
    obtain ⟨w, ws, e, r1', r2'⟩ := z'.consE
    cases e
    simp only [pls, Bool.and_eq_true] at p p'
    simp only [eqvs, Bool.and_eq_true]
    exact ⟨vr_fun p.1 p'.1 r1 r1', vrs_fun p.2 p'.2 r2 r2'⟩
end
mutual
theorem eqAt : ∀ {n k : Nat} {a b : AV} {v w : Value} {A : Around} {s : Shared}, a.pl n = true → b.pl k = true → A.units + n < cLine → VR s.heap a v → VR s.heap b w → EqAt A s v w (a.eqv b)
  | _, _, .int _, .int _, _, _, _, _, _, _, _, r, r' => by obtain ⟨_, rfl⟩ := r.intE; obtain ⟨_, rfl⟩ := r'.intE; simp only [AV.eqv]; exact EqAt.int_int _ _ _ _
  | _, _, .int _, .str _, _, _, _, _, _, _, _, r, r' => by obtain ⟨_, rfl⟩ := r.intE; obtain ⟨_, rfl⟩ := r'.strE; simp only [AV.eqv]; exact EqAt.int_str _ _ _ _
  | _, _, .int _, .tup _, _, _, _, _, _, _, hu, r, r' => by obtain ⟨_, rfl⟩ := r.intE; obtain ⟨_, _, rfl, t, _⟩ := r'.tupE; simp only [AV.eqv]; exact EqAt.int_tuple _ _ t (by omega)
  | _, _, .str _, .int _, _, _, _, _, _, _, _, r, r' => by obtain ⟨_, rfl⟩ := r.strE; obtain ⟨_, rfl⟩ := r'.intE; simp only [AV.eqv]; exact EqAt.str_int _ _ _ _
  | _, _, .str _, .str _, _, _, _, _, _, _, _, r, r' => by obtain ⟨_, rfl⟩ := r.strE; obtain ⟨_, rfl⟩ := r'.strE; simp only [AV.eqv]; exact EqAt.str_str _ _ _ _
  | _, _, .str _, .tup _, _, _, _, _, _, _, hu, r, r' => by obtain ⟨_, rfl⟩ := r.strE; obtain ⟨_, _, rfl, t, _⟩ := r'.tupE; simp only [AV.eqv]; exact EqAt.str_tuple _ _ t (by omega)
  | _, _, .tup _, .int _, _, _, _, _, _, _, hu, r, r' => by obtain ⟨_, _, rfl, t, _⟩ := r.tupE; obtain ⟨_, rfl⟩ := r'.intE; simp only [AV.eqv]; exact EqAt.tuple_int _ _ t (by omega)
  | _, _, .tup _, .str _, _, _, _, _, _, _, hu, r, r' => by obtain ⟨_, _, rfl, t, _⟩ := r.tupE; obtain ⟨_, rfl⟩ := r'.strE; simp only [AV.eqv]; exact EqAt.tuple_str _ _ t (by omega)
  | n + 1, k + 1, .tup l, .tup r, v, w, A, s, h, h', hu, q, q' => by
    obtain ⟨a, is, rfl, t, z⟩ := q.tupE
    obtain ⟨b, js, rfl, t', z'⟩ := q'.tupE
    simp only [AV.pl] at h h'
    have E := eqAts (n := n) (k := k) (l := l) (r := r) (A := A.in1) (s := s) h h' (by show A.units + 1 + n < cLine; omega) z z'
    by_cases hne : a = b
    · subst hne
      obtain ⟨o, ho, _, n1, hd⟩ := t
      obtain ⟨o', ho', _, n2, hd'⟩ := t'
      rw [ho] at ho'; cases ho'
      rw [hd] at hd'
      have hij : is = js := by injection hd' with e _; simpa using congrArg Array.toList e
      subst hij
      have : (AV.tup l).eqv (.tup r) = true := by
        simp only [AV.eqv]
        rw [eqvs_all]
        have hlen : l.length = r.length := by rw [← z.length, ← z'.length]
        simp only [hlen, Nat.min_self, beq_self_eq_true, Bool.and_true, List.all_eq_true, List.mem_range]
        intro i hi
        have h1 : i < l.length := by omega
        rw [eqIx_of h1 hi]
        obtain ⟨v1, hv1, r1⟩ := z.get (List.getElem?_eq_getElem h1)
        obtain ⟨v2, hv2, r2⟩ := z'.get (List.getElem?_eq_getElem hi)
        rw [hv1] at hv2; cases hv2
        exact vr_fun (pls_get h h1) (pls_get h' hi) r1 r2
      rw [this]; exact EqAt.same _
    · have := EqAt.of_refs hne (RcAt.tuples (A := A) t t' (by omega) (e := eqIx l r) fun j h1 h2 => by
        have g1 : j < l.length := by simpa [z.length] using h1
        have g2 : j < r.length := by simpa [z'.length] using h2
        rw [eqIx_of g1 g2]
        have := E j g1 g2
        simpa using this)
      simpa [AV.eqv, eqvs_all, z.length, z'.length] using this
  | 0, _, .tup _, .tup _, _, _, _, _, h, _, _, _, _ => by simp [AV.pl] at h
  | _, 0, .tup _, .tup _, _, _, _, _, _, h, _, _, _ => by simp [AV.pl] at h
  | _, _, .none, _, _, _, _, _, h, _, _, _, _ => by simp [AV.pl] at h
  | _, _, .bool _, _, _, _, _, _, h, _, _, _, _ => by simp [AV.pl] at h
  | _, _, .ref _, _, _, _, _, _, h, _, _, _, _ => by simp [AV.pl] at h
  | _, _, .oth _, _, _, _, _, _, h, _, _, _, _ => by simp [AV.pl] at h
  | _, _, _, .none, _, _, _, _, _, h, _, _, _ => by simp [AV.pl] at h
  | _, _, _, .bool _, _, _, _, _, _, h, _, _, _ => by simp [AV.pl] at h
  | _, _, _, .ref _, _, _, _, _, _, h, _, _, _ => by simp [AV.pl] at h
  | _, _, _, .oth _, _, _, _, _, _, h, _, _, _ => by simp [AV.pl] at h
theorem eqAts : ∀ {n k : Nat} {l r : List AV} {vs ws : List Value} {A : Around} {s : Shared}, pls n l = true → pls k r = true → A.units + n < cLine → (z : VRs s.heap l vs) → (z' : VRs s.heap r ws) →
    ∀ j (h1 : j < l.length) (h2 : j < r.length), EqAt A s (vs[j]'(by rw [z.length]; exact h1)) (ws[j]'(by rw [z'.length]; exact h2)) (l[j].eqv r[j])
  | _, _, [], _, _, _, _, _, _, _, _, _, _, j, h1, _ => by simp at h1
  | _, _, _ :: _, [], _, _, _, _, _, _, _, _, _, j, _, h2 => by simp at h2
  | n, k, a :: l, b :: r, vs, ws, A, s, h, h', hu, z, z', j, h1, h2 => by
    obtain ⟨v, vs', rfl, r1, r2⟩ := z.consE
    obtain ⟨w, ws', rfl, r1', r2'⟩ := z'.consE
    simp only [pls, Bool.and_eq_true] at h h'
    cases j with
    | zero => simpa using eqAt h.1 h'.1 hu r1 r1'
    | succ j => simpa using eqAts h.2 h'.2 hu r2 r2' j (by simpa using h1) (by simpa using h2)
end
open PySem PySem.W PySem.Calls PyProof.Rows PySem.SeqAt
theorem ORel.keep {G : Gl} {h h' : Heap} (k : ∀ a items, IsTup h a items → IsTup h' a items) {a : Addr} (e : ∀ o, h.get? a = some o → h'.get? a = some o) {ao : AO} (r : ORel G h a ao) : ORel G h' a ao := by
  cases ao with
  | list l => obtain ⟨i, n, x, y⟩ := r; exact ⟨i, n, e _ x, y.keep k⟩
  | dS l => obtain ⟨i, ⟨o, es, ep, x, y⟩, z⟩ := r; exact ⟨i, ⟨o, es, ep, e _ x, y⟩, z.keep k⟩
  | dI l => obtain ⟨i, ⟨o, es, ep, x, y⟩, z⟩ := r; exact ⟨i, ⟨o, es, ep, e _ x, y⟩, z.keep k⟩
  | dT l =>
    obtain ⟨i, ⟨o, es, ep, x, y1, y2, y3, y4, y5⟩, z⟩ := r
    refine ⟨i, ⟨o, es, ep, e _ x, y1, y2, y3, fun p hp => ?_, y5⟩, z.keep k⟩
    obtain ⟨o, items, n, q1, q2, q3, q4⟩ := y4 p hp
    obtain ⟨o', q1', q2', n', q3'⟩ := k p.2.1 items ⟨o, q1, q2, n, q3⟩
    exact ⟨o', items, n', q1', q2', q3', q4⟩
  | inst C dx => exact e _ r
  | ns n v =>
    obtain ⟨o, es, ep, x, y1, y2, z, y3⟩ := r
    exact ⟨o, es, ep, e _ x, y1, y2, fun q => (z q).keep k, y3⟩
  | rng x y => obtain ⟨t, u, v, q⟩ := r; exact ⟨t, u, v, e _ q⟩
  | exc C dx => obtain ⟨t, q⟩ := r; exact ⟨t, e _ q⟩
  | held C dx => obtain ⟨o, vs, q, z⟩ := r; exact ⟨o, vs, e _ q, z⟩
  | cell v => obtain ⟨o, w, q, z, y⟩ := r; exact ⟨o, w, e _ q, z, y.keep k⟩
theorem NsR.keep {h h' : Heap} (k : ∀ a items, IsTup h a items → IsTup h' a items) {a : Addr} (e : ∀ o, h.get? a = some o → h'.get? a = some o) {n v} (r : NsR h a n v) : NsR h' a n v := by
  obtain ⟨mr, ⟨o, es, ep, x, y⟩, z⟩ := r
  exact ⟨mr, ⟨o, es, ep, e _ x, y⟩, fun q => (z q).keep k⟩
theorem IsTup.keepAll {h h' : Heap} (k : ∀ b o, h.get? b = some o → h'.get? b = some o) : ∀ a items, IsTup h a items → IsTup h' a items := fun _ _ t => t.keeps k
theorem IsTup.keepBut {h h' : Heap} {a : Addr} (k : ∀ b o, b ≠ a → h.get? b = some o → h'.get? b = some o) (n : ∀ items, ¬ IsTup h a items) : ∀ b items, IsTup h b items → IsTup h' b items := by
  rintro b items ⟨o, ho, r⟩
  have : b ≠ a := by rintro rfl; exact n items ⟨o, ho, r⟩
  exact ⟨o, k b o this ho, r⟩
inductive UpdL (a : Addr) (o o' : AO) : Hp → Hp → Prop
  | here {r} : UpdL a o o' ((a, o) :: r) ((a, o') :: r)
  | there {p r r'} : UpdL a o o' r r' → UpdL a o o' (p :: r) (p :: r')
theorem UpdL.fst {a : Addr} {o o' : AO} {σ σ' : Hp} (u : UpdL a o o' σ σ') : σ'.map (·.1) = σ.map (·.1) := by
  induction u with
  | here => rfl
  | there _ ih => simp [ih]
theorem UpdL.mem {a : Addr} {o o' : AO} {σ σ' : Hp} (u : UpdL a o o' σ σ') : (a, o) ∈ σ := by
  induction u with
  | here => exact .head _
  | there _ ih => exact .tail _ ih
theorem UpdL.cases {a : Addr} {o o' : AO} {σ σ' : Hp} (u : UpdL a o o' σ σ') (nd : (σ.map (·.1)).Nodup) : ∀ p ∈ σ', p = (a, o') ∨ (p ∈ σ ∧ p.1 ≠ a) := by
  induction u with
  | here =>
    intro p hp
    rcases List.mem_cons.mp hp with rfl | hp
    · exact .inl rfl
    · refine .inr ⟨.tail _ hp, fun e => ?_⟩
      simp only [List.map_cons, List.nodup_cons] at nd
      exact nd.1 (e ▸ List.mem_map_of_mem hp)
  | there u ih =>
    rename_i q r r'
    simp only [List.map_cons, List.nodup_cons] at nd
    intro p hp
    rcases List.mem_cons.mp hp with rfl | hp
    · refine .inr ⟨.head _, fun e => nd.1 ?_⟩
      rw [e]; exact List.mem_map_of_mem u.mem
    · rcases ih nd.2 p hp with h | h
      · exact .inl h
      · exact .inr ⟨.tail _ h.1, h.2⟩
section
variable {X : Fx} {m : Loc} {σ : Hp} {s : Shared}
theorem St.lt {a : Addr} {o : AO} (S : St X m σ s) (h : (a, o) ∈ σ) : ∃ ob, s.heap.get? a = some ob := by
  have r := S.hr.own _ h
  cases o with
  | list l => obtain ⟨i, n, x, y⟩ := r; exact ⟨_, x⟩
  | dS l => obtain ⟨i, ⟨o, es, ep, x, y⟩, z⟩ := r; exact ⟨_, x⟩
  | dI l => obtain ⟨i, ⟨o, es, ep, x, y⟩, z⟩ := r; exact ⟨_, x⟩
  | dT l => obtain ⟨i, ⟨o, es, ep, x, y⟩, z⟩ := r; exact ⟨_, x⟩
  | inst C dx => exact ⟨_, r⟩
  | ns n v => obtain ⟨o, es, ep, x, y⟩ := r; exact ⟨_, x⟩
  | rng x y => obtain ⟨t, u, v, q⟩ := r; exact ⟨_, q⟩
  | exc C dx => obtain ⟨t, q⟩ := r; exact ⟨_, q⟩
  | held C dx => obtain ⟨o, vs, q, z⟩ := r; exact ⟨_, q⟩
  | cell v => obtain ⟨o, w, q, z⟩ := r; exact ⟨_, q⟩
theorem St.memlt {a : Addr} (S : St X m σ s) (h : a ∈ σ.map (·.1)) : a < s.heap.objs.size := by
  obtain ⟨⟨b, o⟩, hp, rfl⟩ := List.mem_map.mp h
  obtain ⟨ob, e⟩ := S.lt hp
  exact Heap.lt_size e
theorem St.two (S : St X m σ s) : 2 ≤ s.heap.objs.size := by
  obtain ⟨mr, hn, _⟩ := S.ns; exact Nat.le_trans S.ok.lo (Nat.le_of_lt hn.lt)
theorem St.Llt (S : St X m σ s) : X.L < s.heap.objs.size := by
  obtain ⟨mr, hn, _⟩ := S.ns; exact hn.lt
/-- the heap has grown by what nobody owns -/
theorem St.grow (S : St X m σ s) {h' : Heap} {tk : Nat} (k : ∀ b o, s.heap.get? b = some o → h'.get? b = some o) :
    St X m σ { s with heap := h', toks := tk } ∧ Step X.L σ σ s.heap h' := by
  have kt := IsTup.keepAll k
  have P : Step X.L σ σ s.heap h' := ⟨fun b o _ _ e => k b o e, fun b h => .inl h, S.noL⟩
  exact ⟨⟨S.ok, ⟨fun p hp => (S.hr.own p hp).keep kt (k p.1), S.hr.nd, fun b o e => k b o (S.hr.base b o e), S.hr.apart, S.hr.lo⟩, S.ns.keep kt (k _), S.noL, S.newL, S.gens, S.os, S.frs' P⟩, P⟩
theorem St.push (S : St X m σ s) (o : Obj) {tk : Nat} : St X m σ { s with heap := s.heap.push o, toks := tk } ∧ Step X.L σ σ s.heap (s.heap.push o) :=
  S.grow (fun b x e => Heap.get?_push_of_some _ e)
/-- a new object of our own -/
theorem St.alloc (S : St X m σ s) {h' : Heap} {tk : Nat} {a : Addr} {ao : AO} (k : ∀ b o, s.heap.get? b = some o → h'.get? b = some o) (ha : s.heap.get? a = none) (h2 : 2 ≤ a) (r : ORel X.G h' a ao) :
    St X m ((a, ao) :: σ) { s with heap := h', toks := tk } ∧ Step X.L σ ((a, ao) :: σ) s.heap h' := by
  have kt := IsTup.keepAll k
  have na : a ∉ σ.map (·.1) := fun q => by obtain ⟨⟨b, o⟩, hp, rfl⟩ := List.mem_map.mp q; obtain ⟨ob, e⟩ := S.lt hp; rw [e] at ha; cases ha
  have nL : X.L ∉ ((a, ao) :: σ).map (·.1) := by
    obtain ⟨mr, ⟨o, es, ep, x, y⟩, z⟩ := S.ns
    simp only [List.map_cons, List.mem_cons, not_or]
    refine ⟨fun e => ?_, S.noL⟩
    rw [e, ha] at x; cases x
  have P : Step X.L σ ((a, ao) :: σ) s.heap h' := by
    refine ⟨fun b o _ _ e => k b o e, fun b h => ?_, nL⟩
    simp only [List.map_cons, List.mem_cons] at h
    rcases h with rfl | h
    · exact .inr ha
    · exact .inl h
  refine ⟨⟨S.ok, ⟨fun p hp => ?_, ?_, fun b o e => k b o (S.hr.base b o e), fun p hp => ?_, fun p hp => (List.mem_cons.mp hp).elim (fun e => e ▸ h2) (S.hr.lo p)⟩, S.ns.keep kt (k _), nL, S.newL, S.gens, S.os, S.frs' P⟩, P⟩
  · rcases List.mem_cons.mp hp with rfl | hp
    · exact r
    · exact (S.hr.own p hp).keep kt (k p.1)
  · simp only [List.map_cons, List.nodup_cons]; exact ⟨na, S.hr.nd⟩
  · rcases List.mem_cons.mp hp with rfl | hp
    · cases q : X.G.W0.get? a with
      | none => rfl
      | some o => have := S.hr.base _ _ q; rw [ha] at this; cases this
    · exact S.hr.apart p hp
/-- one of our own objects has changed -/
theorem St.upd (S : St X m σ s) {σ' : Hp} {h' : Heap} {tk : Nat} {a : Addr} {o o' : AO} (u : UpdL a o o' σ σ') (k : ∀ b x, b ≠ a → s.heap.get? b = some x → h'.get? b = some x)
    (r : ORel X.G h' a o') : St X m σ' { s with heap := h', toks := tk } ∧ Step X.L σ σ' s.heap h' := by
  have kt := IsTup.keepBut k (fun items => (S.hr.own _ u.mem).noTup)
  have hL : X.L ≠ a := fun e => S.noL (e ▸ List.mem_map_of_mem u.mem)
  have P : Step X.L σ σ' s.heap h' := ⟨fun b x hb _ e => k b x (fun q => hb (q ▸ List.mem_map_of_mem u.mem)) e, fun b h => .inl (u.fst ▸ h), u.fst ▸ S.noL⟩
  refine ⟨⟨S.ok, ⟨fun p hp => ?_, u.fst ▸ S.hr.nd, fun b x e => k b x (fun q => ?_) (S.hr.base b x e), fun p hp => ?_, fun p hp => (u.cases S.hr.nd p hp).elim (fun e => e ▸ S.hr.lo (a, o) u.mem) fun q => S.hr.lo p q.1⟩, S.ns.keep kt (fun x => k _ x hL), u.fst ▸ S.noL, S.newL, S.gens, S.os, S.frs' P⟩, P⟩
  · rcases u.cases S.hr.nd p hp with rfl | ⟨hp, hn⟩
    · exact r
    · exact (S.hr.own p hp).keep kt (fun x => k _ x hn)
  · have := S.hr.apart _ u.mem
    rw [← q, e] at this; cases this
  · rcases u.cases S.hr.nd p hp with rfl | ⟨hp, hn⟩
    · exact S.hr.apart (a, o) u.mem
    · exact S.hr.apart p hp
/-- a local name -/
theorem St.loc (S : St X m σ s) {m' : Loc} {h' : Heap} {tk : Nat} (k : ∀ b x, b ≠ X.L → s.heap.get? b = some x → h'.get? b = some x)
    (r : NsR h' X.L X.names m') : St X m' σ { s with heap := h', toks := tk } ∧ Step X.L σ σ s.heap h' := by
  have kt := IsTup.keepBut k (fun items => S.ns.noTup)
  have P : Step X.L σ σ s.heap h' := ⟨fun b x _ hb e => k b x hb e, fun b h => .inl h, S.noL⟩
  refine ⟨⟨S.ok, ⟨fun p hp => (S.hr.own p hp).keep kt (fun x => k _ x fun e => S.noL (e ▸ List.mem_map_of_mem hp)), S.hr.nd, fun b x e => k b x (fun q => ?_) (S.hr.base b x e), S.hr.apart, S.hr.lo⟩, r, S.noL, S.newL, S.gens, S.os, S.frs' P⟩, P⟩
  have := S.newL
  rw [← q, e] at this; cases this
/-- fewer of our own, in another order -/
noncomputable def Le (σ' σ : Hp) : Prop := ∃ t, σ.Perm (σ' ++ t)
theorem Le.refl (σ : Hp) : Le σ σ := ⟨[], by simp⟩
theorem Le.sub {σ' σ : Hp} (h : Le σ' σ) : ∀ p ∈ σ', p ∈ σ := fun p hp => by obtain ⟨t, q⟩ := h; exact q.mem_iff.mpr (List.mem_append_left _ hp)
theorem Le.nd {σ' σ : Hp} (h : Le σ' σ) (n : (σ.map (·.1)).Nodup) : (σ'.map (·.1)).Nodup := by
  obtain ⟨t, q⟩ := h
  have := (q.map (·.1)).nodup_iff.mp n
  rw [List.map_append] at this
  exact (List.nodup_append.mp this).1
theorem St.le {σ' : Hp} (S : St X m σ s) (h : Le σ' σ) : St X m σ' s :=
  ⟨S.ok, ⟨fun p hp => S.hr.own p (h.sub p hp), h.nd S.hr.nd, S.hr.base, fun p hp => S.hr.apart p (h.sub p hp), fun p hp => S.hr.lo p (h.sub p hp)⟩, S.ns, fun q => S.noL (by obtain ⟨p, hp, e⟩ := List.mem_map.mp q; exact e ▸ List.mem_map_of_mem (h.sub p hp)), S.newL, S.gens, S.os,
    fun q hq => ⟨(S.frs q hq).fr, (S.frs q hq).keep, fun b hb => (S.frs q hq).new b (by obtain ⟨p, hp, e⟩ := List.mem_map.mp hb; exact e ▸ List.mem_map_of_mem (h.sub p hp))⟩⟩
theorem Step.le {L : Addr} {σ₀ σ σ' : Hp} {h h' : Heap} (P : Step L σ₀ σ h h') (l : Le σ' σ) : Step L σ₀ σ' h h' :=
  ⟨P.keep, fun b hb => P.new b (by obtain ⟨p, hp, e⟩ := List.mem_map.mp hb; exact e ▸ List.mem_map_of_mem (l.sub p hp)), fun q => P.noL (by obtain ⟨p, hp, e⟩ := List.mem_map.mp q; exact e ▸ List.mem_map_of_mem (l.sub p hp))⟩
/-- a walk that starts with fewer of our own -/
theorem Step.of_le {L : Addr} {σ₀ σ σ' : Hp} {h h' : Heap} (P : Step L σ₀ σ' h h') (l : Le σ₀ σ) : Step L σ σ' h h' :=
  ⟨fun b o hb => P.keep b o fun q => hb (by obtain ⟨p, hp, e⟩ := List.mem_map.mp q; exact e ▸ List.mem_map_of_mem (l.sub p hp)), fun b hb => (P.new b hb).imp (fun q => by obtain ⟨p, hp, e⟩ := List.mem_map.mp q; exact e ▸ List.mem_map_of_mem (l.sub p hp)) id, P.noL⟩
end
section
variable {X : Fx} {m : Loc} {σ σ₁ : Hp} {EQ : EPost}
theorem EP.of_le {s : Shared} {e : Value} {s' : Shared} (h : EP X σ₁ EQ s e s') (l : Le σ₁ σ) : EP X σ EQ s e s' := h
theorem Xs.drop {t : Sem Flow} {Q : AF → Loc → Hp → Prop} (l : Le σ₁ σ) (h : Xs X t m σ₁ EQ Q) : Xs X t m σ EQ Q := fun s S =>
  wpAny_mono (h s (S.le l)) (fun v s' ⟨a, m', σ', h1, h2, h3, h4⟩ => ⟨a, m', σ', h1, h2, h3.of_le l, h4⟩) fun _ _ e => e.of_le l
theorem Ev.mono {t : Sem Value} {Q Q' : AV → Hp → Prop} (h : Ev X t m σ EQ Q) (k : ∀ a σ', Q a σ' → Q' a σ') : Ev X t m σ EQ Q' := fun s S =>
  wpAny_mono (h s S) (fun v s' ⟨a, σ', h1, h2, h3, h4⟩ => ⟨a, σ', h1, h2, h3, k _ _ h4⟩) fun _ _ e => e
theorem Xs.mono {t : Sem Flow} {Q Q' : AF → Loc → Hp → Prop} (h : Xs X t m σ EQ Q) (k : ∀ a m' σ', Q a m' σ' → Q' a m' σ') : Xs X t m σ EQ Q' := fun s S =>
  wpAny_mono (h s S) (fun v s' ⟨a, m', σ', h1, h2, h3, h4⟩ => ⟨a, m', σ', h1, h2, h3, k _ _ _ h4⟩) fun _ _ e => e
/-- at an end: fewer of our own -/
theorem Xs.weak {t : Sem Flow} {Q : AF → Loc → Hp → Prop} (h : Xs X t m σ EQ fun a m' σ' => ∃ σ'', Le σ'' σ' ∧ Q a m' σ'') : Xs X t m σ EQ Q := fun s S =>
  wpAny_mono (h s S) (fun v s' ⟨a, m', σ', h1, h2, h3, σ'', l, h4⟩ => ⟨a, m', σ'', h1, h2.le l, h3.le l, h4⟩) fun _ _ e => e
end
open PySem PySem.W PySem.Calls PyProof.Rows PySem.SeqAt
section
variable {X : Fx} {m : Loc} {σ : Hp} {EQ : EPost} {Q : AV → Hp → Prop}
/-! ends of a step -/
theorem doneH {v : Value} {s s' : Shared} {a : AV} {Q : AV → Hp → Prop} {σ' : Hp} (S : St X m σ' s' ∧ Step X.L σ σ' s.heap s'.heap) (h : VR s'.heap a v) (q : Q a σ') :
    ∃ a σ', VR s'.heap a v ∧ St X m σ' s' ∧ Step X.L σ σ' s.heap s'.heap ∧ Q a σ' := ⟨a, σ', h, S.1, S.2, q⟩
theorem St.units {s : Shared} (S : St X m σ s) : X.A.units + 5 * X.n + 20 < cLine := S.ok.room.2.1
theorem St.handled {s : Shared} (S : St X m σ s) (hX : X.n ≠ 0) : X.A.handled = none := S.ok.room.2.2.resolve_left hX
/-! comparisons -/
theorem Op2.gt {a b : Int} (q : Q (.bool (decide (b < a))) σ) : Op2 X m σ EQ (compareOp .Gt) (.int a) (.int b) Q := by
  intro _ _ s S r₁ r₂; obtain ⟨t, rfl⟩ := r₁.intE; obtain ⟨u, rfl⟩ := r₂.intE; exact PyProof.Rows.gt_int (done S .boolI q)
theorem Op2.ge {a b : Int} (q : Q (.bool (decide (b ≤ a))) σ) : Op2 X m σ EQ (compareOp .GtE) (.int a) (.int b) Q := by
  intro _ _ s S r₁ r₂; obtain ⟨t, rfl⟩ := r₁.intE; obtain ⟨u, rfl⟩ := r₂.intE; exact PyProof.Rows.ge_int (done S .boolI q)
theorem Op2.nei {a b : Int} (q : Q (.bool (a != b)) σ) : Op2 X m σ EQ (compareOp .NotEq) (.int a) (.int b) Q := by
  intro _ _ s S r₁ r₂; obtain ⟨t, rfl⟩ := r₁.intE; obtain ⟨u, rfl⟩ := r₂.intE; exact PyProof.Rows.ne_int (done S .boolI q)
theorem Op2.eqs {a b : Str} (q : Q (.bool (a == b)) σ) : Op2 X m σ EQ (compareOp .Eq) (.str a) (.str b) Q := by
  intro _ _ s S r₁ r₂; obtain ⟨t, rfl⟩ := r₁.strE; obtain ⟨u, rfl⟩ := r₂.strE; exact PyProof.Rows.eq_str (done S .boolI q)
noncomputable def AV.isNone : AV → Bool
  | .none => true
  | _ => false
noncomputable def AV.known : AV → Bool
  | .oth _ => false
  | _ => true
theorem vr_none {h : Heap} {a : AV} {v : Value} (r : VR h a v) (k : a.known = true) : (v == Value.none) = a.isNone := by
  cases a with
  | none => obtain rfl := r.noneE; rfl
  | bool => obtain rfl := r.boolE; rfl
  | int => obtain ⟨_, rfl⟩ := r.intE; rfl
  | str => obtain ⟨_, rfl⟩ := r.strE; rfl
  | tup => obtain ⟨_, _, rfl, _⟩ := r.tupE; rfl
  | ref => obtain rfl := r.refE; rfl
  | oth => simp [AV.known] at k
theorem Op2.isNone {a : AV} (k : a.known = true) (q : Q (.bool a.isNone) σ) : Op2 X m σ EQ (compareOp .Is) a .none Q := by
  intro _ _ s S r₁ r₂; obtain rfl := r₂.noneE
  exact PyProof.Rows.is_none_gen (vr_none r₁ k ▸ done S .boolI q)
theorem rcTup {A : Around} {s : Shared} {n k : Nat} {l r : List AV} {a b : Addr} {is js : List Value} (hl : pls n l = true) (hr : pls k r = true) (hu : A.units + n + 1 < cLine)
    (t : IsTup s.heap a is.toArray) (t' : IsTup s.heap b js.toArray) (z : VRs s.heap l is) (z' : VRs s.heap r js) : RcAt A s (.ref a) (.ref b) (eqvs l r) := by
  have := RcAt.tuples (A := A) t t' (by omega) (e := eqIx l r) fun j h1 h2 => by
    have g1 : j < l.length := by simpa [z.length] using h1
    have g2 : j < r.length := by simpa [z'.length] using h2
    rw [eqIx_of g1 g2]
    have := eqAts (A := A.in1) (s := s) hl hr (by show A.units + 1 + n < cLine; omega) z z' j g1 g2
    simpa using this
  simpa [eqvs_all, z.length, z'.length] using this
theorem Op2.eqT {l r : List AV} {n k : Nat} (hl : pls n l = true) (hr : pls k r = true) (hn : n + 1 ≤ 5 * X.n + 20) (q : Q (.bool (eqvs l r)) σ) : Op2 X m σ EQ (compareOp .Eq) (.tup l) (.tup r) Q := by
  intro _ _ s S r₁ r₂
  obtain ⟨a, is, rfl, t, z⟩ := r₁.tupE
  obtain ⟨b, js, rfl, t', z'⟩ := r₂.tupE
  have := S.units
  exact rcTup hl hr (by omega) t t' z z' X.G.prog X.G.w _ _ (done S .boolI q)
theorem eqvs_false_len {l r : List AV} (h : l.length ≠ r.length) : eqvs l r = false := by
  cases q : eqvs l r with
  | false => rfl
  | true => exact absurd (eqvs_len q) h
theorem eqvs_same_len {l r : List AV} (h : l.length = r.length) : eqvs l r = (List.range l.length).all (eqIx l r) := by
  rw [eqvs_all, h]; simp
theorem Op2.eqL {x y : Addr} {l r : List AV} {n k : Nat} (hx : (x, .list l) ∈ σ) (hy : (y, .list r) ∈ σ) (hl : pls n l = true) (hr : pls k r = true) (hn : n + 1 ≤ 5 * X.n + 20) (q : Q (.bool (eqvs l r)) σ) :
    Op2 X m σ EQ (compareOp .Eq) (.ref x) (.ref y) Q := by
  intro _ _ s S r₁ r₂
  obtain rfl := r₁.refE; obtain rfl := r₂.refE
  obtain ⟨is, ni, hi, z⟩ := S.hr.own _ hx
  obtain ⟨js, nj, hj, z'⟩ := S.hr.own _ hy
  have hu := S.units
  have h1 : s.heap.IsList x is.toArray := ⟨_, hi, rfl, _, rfl⟩
  have h2 : s.heap.IsList y js.toArray := ⟨_, hj, rfl, _, rfl⟩
  by_cases hlen : l.length = r.length
  · refine RcAt.lists (A := X.A) h1 h2 (by simp [z.length, z'.length, hlen]) (by omega) (e := eqIx l r) (fun j g1 g2 => ?_) X.G.prog X.G.w _ _ ?_
    · have g1' : j < l.length := by simpa [z.length] using g1
      have g2' : j < r.length := by simpa [z'.length] using g2
      rw [eqIx_of g1' g2']
      simpa using eqAts (A := X.A.in1) (s := s) hl hr (by show X.A.units + 1 + n < cLine; omega) z z' j g1' g2'
    · rw [show is.toArray.size = l.length by simp [z.length], ← eqvs_same_len hlen]
      exact done S .boolI q
  · refine RcAt.lists_lengths (A := X.A) h1 h2 (by simp [z.length, z'.length, hlen]) (by omega) X.G.prog X.G.w _ _ ?_
    rw [eqvs_false_len hlen] at q
    exact done S .boolI q
theorem Op2.neL {x y : Addr} {l r : List AV} {n k : Nat} (hx : (x, .list l) ∈ σ) (hy : (y, .list r) ∈ σ) (hl : pls n l = true) (hr : pls k r = true) (hn : n + 1 ≤ 5 * X.n + 20) (q : Q (.bool (!eqvs l r)) σ) :
    Op2 X m σ EQ (compareOp .NotEq) (.ref x) (.ref y) Q := by
  intro _ _ s S r₁ r₂
  obtain rfl := r₁.refE; obtain rfl := r₂.refE
  obtain ⟨is, ni, hi, z⟩ := S.hr.own _ hx
  obtain ⟨js, nj, hj, z'⟩ := S.hr.own _ hy
  have hu := S.units
  have h1 : s.heap.IsList x is.toArray := ⟨_, hi, rfl, _, rfl⟩
  have h2 : s.heap.IsList y js.toArray := ⟨_, hj, rfl, _, rfl⟩
  by_cases hlen : l.length = r.length
  · refine RcNeAt.lists (A := X.A) h1 h2 (by simp [z.length, z'.length, hlen]) (by omega) (e := eqIx l r) (fun j g1 g2 => ?_) X.G.prog X.G.w _ _ ?_
    · have g1' : j < l.length := by simpa [z.length] using g1
      have g2' : j < r.length := by simpa [z'.length] using g2
      rw [eqIx_of g1' g2']
      simpa using eqAts (A := X.A.in1) (s := s) hl hr (by show X.A.units + 1 + n < cLine; omega) z z' j g1' g2'
    · rw [show is.toArray.size = l.length by simp [z.length], ← eqvs_same_len hlen]
      exact done S .boolI q
  · refine RcNeAt.lists_lengths (A := X.A) h1 h2 (by simp [z.length, z'.length, hlen]) (by omega) X.G.prog X.G.w _ _ ?_
    rw [eqvs_false_len hlen] at q
    exact done S .boolI q
open Classical in
theorem Op2.inTup {k : AV} {l : List AV} {n n' : Nat} (hk : k.pl n' = true) (hl : pls n l = true) (hn : n + 1 ≤ 5 * X.n + 20) (q : Q (.bool (l.any fun y => y.eqv k)) σ) : Op2 X m σ EQ (compareOp .In) k (.tup l) Q := by
  intro v _ s S r₁ r₂
  obtain ⟨a, is, rfl, t, z⟩ := r₂.tupE
  have hu := S.units
  let e : Value → Bool := fun y => decide (∃ b ∈ l, VR s.heap b y ∧ b.eqv k = true)
  have hmem : ∀ y ∈ is, ∃ b ∈ l, VR s.heap b y := fun y hy => by
    obtain ⟨i, hi, rfl⟩ := List.mem_iff_getElem.mp hy
    obtain ⟨b, hb, r⟩ := z.get' (List.getElem?_eq_getElem hi)
    exact ⟨b, List.mem_of_getElem? hb, r⟩
  have pl_of : ∀ b ∈ l, b.pl n = true := fun b hb => by
    obtain ⟨i, hi, rfl⟩ := List.mem_iff_getElem.mp hb
    exact pls_get hl hi
  have he : ∀ y ∈ is, ∀ b ∈ l, VR s.heap b y → e y = b.eqv k := fun y hy b hb r => by
    cases hq : b.eqv k with
    | true => exact decide_eq_true ⟨b, hb, r, hq⟩
    | false =>
      refine decide_eq_false ?_
      rintro ⟨b', hb', r', h'⟩
      have := (eqv_iff n n b b' (pl_of b hb) (pl_of b' hb')).mp (vr_fun (pl_of b hb) (pl_of b' hb') r r')
      rw [this, h'] at hq; cases hq
  have hany : is.toArray.any e = l.any fun y => y.eqv k := by
    rw [List.any_toArray, Bool.eq_iff_iff, List.any_eq_true, List.any_eq_true]
    constructor
    · rintro ⟨y, hy, h⟩
      obtain ⟨b, hb, r⟩ := hmem y hy
      exact ⟨b, hb, he y hy b hb r ▸ h⟩
    · rintro ⟨b, hb, h⟩
      obtain ⟨i, hi, rfl⟩ := List.mem_iff_getElem.mp hb
      obtain ⟨y, hy, r⟩ := z.get (List.getElem?_eq_getElem hi)
      have hy' := List.mem_of_getElem? hy
      exact ⟨y, hy', (he y hy' _ hb r).symm ▸ h⟩
  refine in_tupleAt (A := X.A) e t (fun y hy => ?_) (hany ▸ done S .boolI q)
  have hy' : y ∈ is := by simpa using hy
  obtain ⟨b, hb, r⟩ := hmem y hy'
  rw [he y hy' b hb r]
  exact eqAt (pl_of b hb) hk (by show X.A.units + 1 + n < cLine; omega) r r₁
theorem Op2.inStr {x y : Str} (q : Q (.bool (Txt.contains x y)) σ) : Op2 X m σ EQ (compareOp .In) (.str y) (.str x) Q := by
  intro _ _ s S r₁ r₂; obtain ⟨t, rfl⟩ := r₁.strE; obtain ⟨u, rfl⟩ := r₂.strE; exact SB.contains (done S .boolI q)
/-! items -/
noncomputable def plainSlice : Expr → Bool
  | .Slice .. => false
  | _ => true
theorem subscripted_plain {slice : Expr} (h : plainSlice slice = true) (o i : Value) : subscripted slice false o i = operate [o, i] (getItem o i) := by
  cases slice <;> first | rfl | exact (Bool.false_ne_true h).elim
theorem Ev.sub {value slice pos} (h : Ev X (eval value X.env) m σ EQ fun a σ₁ => Ev X (eval slice X.env) m σ₁ EQ fun b σ₂ => Op2 X m σ₂ EQ (subscriptTail value slice) a b Q) :
    Ev X (eval (.Subscript value slice pos) X.env) m σ EQ Q := by
  intro s S
  refine Subscript_ (ev_then (h s S) (fun v s₁ a σ₁ r₁ S₁ P₁ h₁ => ?_) fun _ _ e => e)
  refine ev_then (h₁ s₁ S₁) (fun w s₂ b σ₂ r₂ S₂ P₂ h₂ => ?_) fun _ _ e => e.trans P₁
  exact ev_from (P₁.trans P₂) (h₂ v w s₂ S₂ (S₁.vr P₂ r₁) r₂)
theorem Op2.itTup {value slice : Expr} {l : List AV} {i : Int} {j : Nat} {x : AV} (hs : plainSlice slice = true) (hlo : -(2 ^ 63) ≤ i) (hhi : i < 2 ^ 63) (hj : seqIndex? i l.length = some j) (hx : l[j]? = some x) (q : Q x σ) :
    Op2 X m σ EQ (subscriptTail value slice) (.tup l) (.int i) Q := by
  intro _ _ s S r₁ r₂
  obtain ⟨a, is, rfl, t, z⟩ := r₁.tupE
  obtain ⟨u, rfl⟩ := r₂.intE
  obtain ⟨y, hy, r⟩ := z.get hx
  exact item_tupleT (A := X.A) t hlo hhi (by rw [z.length]; exact hj) hy (done S r q) (subscripted_plain hs _ _)
/-- a list of our own -/
theorem Op2.itList {value slice : Expr} {x : Addr} {l : List AV} {i : Int} {y : AV} (hs : plainSlice slice = true) (hm : (x, .list l) ∈ σ) (h0 : 0 ≤ i) (hhi : i < 2 ^ 63) (hx : l[i.toNat]? = some y) (q : Q y σ) :
    Op2 X m σ EQ (subscriptTail value slice) (.ref x) (.int i) Q := by
  intro _ _ s S r₁ r₂
  obtain rfl := r₁.refE
  obtain ⟨u, rfl⟩ := r₂.intE
  obtain ⟨is, ni, hi, z⟩ := S.hr.own _ hm
  obtain ⟨v, hv, r⟩ := z.get hx
  have hL : s.heap.IsList x is.toArray := ⟨_, hi, rfl, _, rfl⟩
  exact tail_any (A := X.A) hL.typeIs slot_list_getitem.lookup (wpAny_getItem_list hL h0 hhi (by simpa using hv) (done S r q)) (subscripted_plain hs _ _)
theorem Op2.itStr {value slice : Expr} {x : Str} {i : Int} {c : Nat} (hs : plainSlice slice = true) (hlo : -(2 ^ 63) ≤ i) (hhi : i < 2 ^ 63) (hc : (seqIndex? i x.length).bind (x.cps[·]?) = some c) (q : Q (.str ⟨#[c]⟩) σ) :
    Op2 X m σ EQ (subscriptTail value slice) (.str x) (.int i) Q := by
  intro _ _ s S r₁ r₂
  obtain ⟨t, rfl⟩ := r₁.strE
  obtain ⟨u, rfl⟩ := r₂.intE
  exact tail_any (A := X.A) (typeIs_str s x t) slot_str_getitem.lookup (PyProof.Rows.getItem_str (by simp; omega) hc (doneT S .strI q)) (subscripted_plain hs _ _)
/-! displays -/
theorem newTupleAt {s : Shared} {l : List AV} {vs : List Value} (S : St X m σ s) (z : VRs s.heap l vs) (hsz : l.length ≤ sizeLine) (q : Q (.tup l) σ) : EvAt X (newTuple vs) m σ EQ Q s := by
  refine wpAny_newObj_type ?_ (by show vs.toArray.size ≤ sizeLine; rw [List.size_toArray, z.length]; exact hsz)
  have P := S.push { cls := .type "tuple", data := .seq vs.toArray } (tk := s.toks)
  exact doneH P (.tupI (IsTup.new ..) (S.vrs P.2 z)) q
theorem newListAt {s : Shared} {l : List AV} {vs : List Value} (S : St X m σ s) (z : VRs s.heap l vs) (hsz : l.length ≤ sizeLine) (q : ∀ x, x ∉ σ.map (·.1) → Q (.ref x) ((x, .list l) :: σ)) : EvAt X (newList vs) m σ EQ Q s := by
  refine wpAny_newObj_type ?_ (by show vs.toArray.size ≤ sizeLine; rw [List.size_toArray, z.length]; exact hsz)
  have k : ∀ b o, s.heap.get? b = some o → (s.heap.push { cls := .type "list", data := .seq vs.toArray }).get? b = some o := fun b o e => Heap.get?_push_of_some _ e
  have P := S.alloc (tk := s.toks) (a := s.heap.objs.size) (ao := .list l) k (Heap.get?_none_of_le (Nat.le_refl _)) S.two
    ⟨vs, 0, Heap.get?_push_size _ rfl, z.keep (IsTup.keepAll k)⟩
  exact doneH P .refI (q _ fun h => absurd (S.memlt h) (Nat.lt_irrefl _))
theorem Evs.nil {Q : List AV → Hp → Prop} (q : Q [] σ) : Evs X (spliced []) m σ EQ Q := fun s S => Calls.spliced_nil ⟨[], σ, .nil, S, .refl S.noL _, q⟩
theorem Evs.cons {x : Sem Value} {rest : List (Bool × Sem Value)} {Q : List AV → Hp → Prop} (h : Ev X x m σ EQ fun a σ₁ => Evs X (spliced rest) m σ₁ EQ fun l σ₂ => Q (a :: l) σ₂) : Evs X (spliced ((false, x) :: rest)) m σ EQ Q := by
  intro s S
  refine Calls.spliced_cons (ev_then (h s S) (fun v s₁ a σ₁ r₁ S₁ P₁ h₁ => ?_) fun _ _ e => e)
  refine evs_then (h₁ s₁ S₁) (fun w s₂ b σ₂ r₂ S₂ P₂ h₂ => ?_) fun _ _ e => e.trans P₁
  exact ⟨_, _, .cons (S₁.vr P₂ r₁) r₂, S₂, P₁.trans P₂, h₂⟩
/-- the parts of a display or of a call, one after the other -/
noncomputable def EvL (X : Fx) (es : List Expr) (m : Loc) (σ : Hp) (EQ : EPost) (Q : List AV → Hp → Prop) : Prop := match es with
  | [] => Q [] σ
  | e :: r => Ev X (eval e X.env) m σ EQ fun a σ₁ => EvL X r m σ₁ EQ fun l σ₂ => Q (a :: l) σ₂
noncomputable def noStar : List Expr → Bool
  | [] => true
  | .Starred .. :: _ => false
  | _ :: r => noStar r
theorem starEach_plain {env : Env} : ∀ {es : List Expr}, noStar es = true → starEach es env = es.map fun e => (false, eval e env)
  | [], _ => rfl
  | e :: r, h => by
    have hr : noStar r = true := by cases e <;> first | exact h | exact (Bool.false_ne_true h).elim
    have := starEach_plain (env := env) hr
    cases e <;> first | (show _ :: starEach r env = _; rw [this]; rfl) | exact (Bool.false_ne_true h).elim
theorem backTo_plain {env : Env} {pos : Pos} {es : List Expr} (h : noStar es = true) : backTo pos (starEach es env) = es.map fun e => (false, eval e env) := by
  rw [starEach_plain h]
  simp only [backTo, List.map_map]
  rfl
theorem Evs.of {es : List Expr} {Q : List AV → Hp → Prop} : ∀ {σ : Hp}, EvL X es m σ EQ Q → Evs X (spliced (es.map fun e => (false, eval e X.env))) m σ EQ Q := by
  induction es generalizing Q with
  | nil => exact fun h => .nil h
  | cons e r ih => exact fun h => .cons fun s S => wpAny_mono (h s S) (fun v s' ⟨a, σ', h1, h2, h3, h4⟩ => ⟨a, σ', h1, h2, h3, ih h4⟩) fun _ _ e => e
theorem Ev.tuple {es : List Expr} {k : Nat} {pos : Pos} (hs : noStar es = true) (hz : es.length ≤ 100) (h : EvL X es m σ EQ fun l σ₁ => Q (.tup l) σ₁) : Ev X (eval (.Tuple es k pos) X.env) m σ EQ Q := by
  intro s S
  refine Tuple_ ?_
  rw [backTo_plain hs]
  have h' : Evs X (spliced (es.map fun e => (false, eval e X.env))) m σ EQ fun l σ₁ => l.length = es.length ∧ Q (.tup l) σ₁ := by
    clear hs hz
    have gen : ∀ (es : List Expr) (σ : Hp) (P : List AV → Hp → Prop), EvL X es m σ EQ P → EvL X es m σ EQ fun l σ₁ => l.length = es.length ∧ P l σ₁ := by
      intro es
      induction es with
      | nil => exact fun σ P h => ⟨rfl, h⟩
      | cons e r ih =>
        intro σ P h
        refine Ev.mono h fun a σ' h' => ?_
        have := ih σ' _ h'
        have mono : ∀ (r : List Expr) (σ : Hp) (P P' : List AV → Hp → Prop), (∀ l σ, P l σ → P' l σ) → EvL X r m σ EQ P → EvL X r m σ EQ P' := by
          intro r
          induction r with
          | nil => exact fun σ P P' k h => k _ _ h
          | cons e r ih => exact fun σ P P' k h => Ev.mono h fun a σ' h' => ih σ' _ _ (fun l σ q => k _ _ q) h'
        exact mono r σ' _ _ (fun l σ q => ⟨by simp [q.1], q.2⟩) this
    exact .of (gen _ _ _ h)
  refine evs_then (h' s S) (fun vs s₁ l σ₁ r₁ S₁ P₁ h₁ => ?_) fun _ _ e => e
  exact ev_from P₁ (newTupleAt S₁ r₁ (by rw [h₁.1, sizeLine_eq]; omega) h₁.2)
theorem EvL.mono {es : List Expr} : ∀ {σ : Hp} {P P' : List AV → Hp → Prop}, (∀ l σ, l.length = es.length → P l σ → P' l σ) → EvL X es m σ EQ P → EvL X es m σ EQ P' := by
  induction es with
  | nil => exact fun k h => k _ _ rfl h
  | cons e r ih => exact fun k h => Ev.mono h fun a σ' h' => ih (fun l σ e q => k _ _ (by simp [e]) q) h'
theorem Ev.list {es : List Expr} {pos : Pos} (hs : noStar es = true) (hz : es.length ≤ 100) (h : EvL X es m σ EQ fun l σ₁ => ∀ x, x ∉ σ₁.map (·.1) → Q (.ref x) ((x, .list l) :: σ₁)) : Ev X (eval (.List es pos) X.env) m σ EQ Q := by
  intro s S
  refine List_ ?_
  rw [backTo_plain hs]
  have h' := Evs.of (EvL.mono (P' := fun l σ₁ => l.length = es.length ∧ ∀ x, x ∉ σ₁.map (·.1) → Q (.ref x) ((x, .list l) :: σ₁)) (fun l σ e q => ⟨e, q⟩) h)
  refine evs_then (h' s S) (fun vs s₁ l σ₁ r₁ S₁ P₁ h₁ => ?_) fun _ _ e => e
  exact ev_from P₁ (newListAt S₁ r₁ (by rw [h₁.1, sizeLine_eq]; omega) h₁.2)
end
open PySem PySem.W PySem.Calls PyProof.Rows PySem.SeqAt
/-- the class C has nothing of that name, and reads and stores it plainly -/
structure AtC (K : Frag) (C : Addr) (x : Str) : Prop where
  get : plainGet K C x = true
  dict : hasDictIn K C = true
  fnd : findIn K (.ref C) x = some none
/-- the class stores plainly -/
structure StC (K : Frag) (C : Addr) : Prop where
  set : findIn K (.ref C) "__setattr__" = some (some (.builtin "object.__setattr__"))
  over : plainOver K C = true
structure MtC (K : Frag) (C : Addr) (x : Str) (f : Addr) : Prop where
  get : plainGet K C x = true
  fnd : findIn K (.ref C) x = some (some (.ref f))
  fn : isFn K (.ref f) = true
theorem lookIn_ns {o : Obj} {es : Array DictEntry} {ep : Nat} (hd : o.data = .dict es ep) (hk : StrKeys es) (x : Str) : lookIn x o = some (nsFind es x) := by
  unfold lookIn
  rw [hd]
  dsimp only
  unfold nsFind findBy
  rw [← Array.find?_toList]
  cases h : List.find? (fun e => e.key.isStr x) es.toList with
  | some e => rfl
  | none =>
    have : es.toList.any (·.refKey) = false := by
      rw [List.any_eq_false]; intro e he; obtain ⟨n, t, h⟩ := hk e (by simpa using he); simp [DictEntry.refKey, h]
    rw [this]; rfl
theorem handed_known {h : Heap} {a : AV} {v : Value} (r : VR h a v) (k : a.known = true) : handedIn v = true := by
  cases a with
  | none => obtain rfl := r.noneE; rfl
  | bool => obtain rfl := r.boolE; rfl
  | int => obtain ⟨_, rfl⟩ := r.intE; rfl
  | str => obtain ⟨_, rfl⟩ := r.strE; rfl
  | tup => obtain ⟨_, _, rfl, _⟩ := r.tupE; rfl
  | ref => obtain rfl := r.refE; rfl
  | oth => simp [AV.known] at k
section
variable {X : Fx} {m : Loc} {σ : Hp} {EQ : EPost} {Q : AV → Hp → Prop}
noncomputable def Op1 (X : Fx) (m : Loc) (σ : Hp) (EQ : EPost) (f : Value → Sem Value) (a : AV) (Q : AV → Hp → Prop) : Prop :=
  ∀ v s, St X m σ s → VR s.heap a v → EvAt X (f v) m σ EQ Q s
theorem St.inst {s : Shared} {x C dx : Addr} {names : List Str} {vals : List (Option AV)} (S : St X m σ s) (hx : (x, .inst C dx) ∈ σ) (hd : (dx, .ns names vals) ∈ σ) :
    ∃ o es ep, InstAt s.heap x (instObj C dx) C (some o) ∧ s.heap.get? dx = some o ∧ o.data = .dict es ep ∧ StrKeys es ∧ (∀ y, OVR s.heap (getN names vals y) (nsFind es y)) ∧ es.size ≤ vals.countP (·.isSome) := by
  have h1 : s.heap.get? x = some (instObj C dx) := S.hr.own _ hx
  obtain ⟨o, es, ep, h2, h3, h4, h5, h6⟩ := S.hr.own _ hd
  exact ⟨o, es, ep, ⟨h1, rfl, rfl, h2⟩, h2, h3, h4, h5, h6⟩
theorem Ev.attr {value : Expr} {attr : Str} {pos : Pos} (h : Ev X (eval value X.env) m σ EQ fun r σ₁ => Op1 X m σ₁ EQ (fun v => getAttr v attr true) r Q)
    (he : eval (.Attribute value attr pos) X.env = (do
      let o ← eval value X.env
      standAt pos.atName
      let r ← holding [o] (getAttr o attr true)
      letTemporaryGo value o r
      pure r)) : Ev X (eval (.Attribute value attr pos) X.env) m σ EQ Q := by
  intro s S
  refine Attribute_any_ (ev_then (h s S) (fun v s₁ a σ₁ r₁ S₁ P₁ h₁ => ?_) fun _ _ e => e) he
  exact ev_from P₁ (h₁ v s₁ S₁ r₁)
theorem Op1.get {x C dx : Addr} {attr : Str} {names : List Str} {vals : List (Option AV)} {i : Nat} {a : AV} (hx : (x, .inst C dx) ∈ σ) (hd : (dx, .ns names vals) ∈ σ) (c : AtC X.G.K C attr)
    (n : NIx names attr i) (g : GetAt vals i a) (k : a.known = true) (q : Q a σ) : Op1 X m σ EQ (fun v => getAttr v attr true) (.ref x) Q := by
  intro v s S r
  obtain rfl := r.refE
  obtain ⟨o, es, ep, I, h2, h3, h4, h5, h6⟩ := S.inst hx hd
  have hf := h5 attr
  rw [getN_get n g] at hf
  obtain ⟨w, hw, rw⟩ := hf
  exact get_value S.kin I (plainGet_of c.get).1 (findObj_own (od := o) c.dict c.fnd rfl (by rw [lookIn_ns h3 h4, hw])) (handed_known rw k) (doneT S rw q)
/-- a method, found -/
theorem method_own {x C dx f : Addr} {name : Str} {names : List Str} {vals : List (Option AV)} {s : Shared} {pl : Sem Bool} {R : Value × List Value → Shared → Prop} {E : Value → Shared → Prop} (S : St X m σ s) (hx : (x, .inst C dx) ∈ σ) (hd : (dx, .ns names vals) ∈ σ) (c : MtC X.G.K C name f)
    (n : names.findIdx? (· == name) = none) (q : R (.ref f, [.ref x]) s) : wpAny X.M X.A (getMethod (.ref x) name pl) R E s := by
  obtain ⟨o, es, ep, I, h2, h3, h4, h5, h6⟩ := S.inst hx hd
  have hf := h5 name
  unfold getN at hf
  rw [n] at hf
  have hf : nsFind es name = none := hf
  exact method_fn S.kin I (plainGet_of c.get).1 (plainGet_of c.get).2 c.fnd (beq_iff_eq.mp c.fn) (by show (lookIn name o).map _ = _; rw [lookIn_ns h3 h4, hf]; rfl) q
/-! statements -/
variable {QS : AF → Loc → Hp → Prop}
theorem Xs.nil (q : QS .next m σ) : Xs X (execs [] X.env) m σ EQ QS := fun s S => wpAny_execs_nil ⟨.next, m, σ, rfl, S, .refl S.noL _, q⟩
noncomputable def thenX (X : Fx) (rest : List Stmt) (EQ : EPost) (QS : AF → Loc → Hp → Prop) : AF → Loc → Hp → Prop
  | .next, m, σ => Xs X (execs rest X.env) m σ EQ QS
  | f, m, σ => QS f m σ
theorem Xs.cons {st : Stmt} {rest : List Stmt} (h : Xs X (exec st X.env) m σ EQ (thenX X rest EQ QS)) : Xs X (execs (st :: rest) X.env) m σ EQ QS := by
  intro s S
  refine wpAny_execs_cons (xs_then (h s S) (fun f s₁ g m₁ σ₁ r₁ S₁ P₁ h₁ => ?_) fun _ _ e => e)
  cases g with
  | next => obtain rfl := r₁; exact xs_from P₁ (h₁ s₁ S₁)
  | brk => obtain rfl := r₁; exact ⟨.brk, _, _, rfl, S₁, P₁, h₁⟩
  | cont => obtain rfl := r₁; exact ⟨.cont, _, _, rfl, S₁, P₁, h₁⟩
  | ret a => obtain ⟨v, rfl, r⟩ := r₁; exact ⟨.ret a, _, _, ⟨v, rfl, r⟩, S₁, P₁, h₁⟩
noncomputable def noComp : Expr → Bool
  | .ListComp .. | .SetComp .. | .DictComp .. => false
  | _ => true
theorem swaps_no {value : Expr} {t : Option Expr} {line : Nat} {env : Env} (h : noComp value = true) : swapsWith value t line env = pure false := by
  cases value <;> first | rfl | exact (Bool.false_ne_true h).elim
theorem store_local {x : Str} {i : Nat} {v : Value} {a : AV} {m' : Loc} {s : Shared} {R : Unit → Shared → Prop} {E : Value → Shared → Prop} (S : St X m σ s) (l : Lc X.fd x i) (g : SetAt m i a m') (r : VR s.heap a v)
    (q : ∀ s', St X m' σ s' → Step X.L σ σ s.heap s'.heap → R () s') : wpAny X.M X.A (storeName X.env x v) R E s := by
  obtain ⟨mr, hn, hm⟩ := S.ns
  refine wpAny_storeName_local l.kind hn (fun h' hn' hs => ?_) (by show (X.fd.scope.kind == .class || (X.fd.scope.kind == .module && X.L != X.fd.globals)) = false; rw [S.ok.kind]; rfl)
  have keep : ∀ b x, b ≠ X.L → s.heap.get? b = some x → h'.get? b = some x := fun b x hb e => (hs.2 b hb).trans e
  have kt := IsTup.keepBut keep (fun items => S.ns.noTup)
  have P := S.loc (tk := s.toks + 1) (m' := m') keep ⟨_, hn', fun y => by
    rw [show getN X.names m' y = _ from getN_set l.ix g y]
    by_cases e : y = x
    · rw [if_pos e, if_pos e]; exact ⟨v, rfl, r.keep kt⟩
    · rw [if_neg e, if_neg e]; exact (hm y).keep kt⟩
  exact q _ P.1 P.2
theorem Xs.assign {x : Str} {i : Nat} {value : Expr} {pos' pos : Pos} (l : Lc X.fd x i) (hc : noComp value = true)
    (h : Ev X (eval value X.env) m σ EQ fun a σ₁ => ∃ m', SetAt m i a m' ∧ QS .next m' σ₁) : Xs X (exec (.Assign [.Name x pos'] value pos) X.env) m σ EQ QS := by
  intro s S
  refine wpAny_Assign_Name (ev_then (h s S) (fun v s₁ a σ₁ r₁ S₁ P₁ h₁ => ?_) fun _ _ e => e) (swaps_no hc)
  obtain ⟨m', g, q⟩ := h₁
  exact store_local S₁ l g r₁ fun s' S' P' => ⟨.next, m', σ₁, rfl, S', P₁.trans P', q⟩
theorem Xs.ret {e : Expr} {pos : Pos} (h : Ev X (eval e X.env) m σ EQ fun a σ₁ => QS (.ret a) m σ₁) : Xs X (exec (.Return (some e) pos) X.env) m σ EQ QS := by
  intro s S
  exact wpAny_Return_some (ev_then (h s S) (fun v s₁ a σ₁ r₁ S₁ P₁ h₁ => ⟨.ret a, m, σ₁, ⟨v, rfl, r₁⟩, S₁, P₁, h₁⟩) fun _ _ e => e)
theorem Xs.brk {pos : Pos} (q : QS .brk m σ) : Xs X (exec (.Break pos) X.env) m σ EQ QS := fun s S => wpAny_Break ⟨.brk, m, σ, rfl, S, .refl S.noL _, q⟩
theorem not_inter (h : X.fd.scope.kind = .function) : interactive X.env = false := by
  show (X.fd.scope.kind == .module && _) = false
  rw [h]; rfl
theorem Xs.expr {e : Expr} {pos : Pos} (hc : noComp e = true) (h : Ev X (eval e X.env) m σ EQ fun a σ₁ => QS .next m σ₁) : Xs X (exec (.Expr e pos) X.env) m σ EQ QS := by
  intro s S
  exact wpAny_Expr_any (ev_then (h s S) (fun v s₁ a σ₁ r₁ S₁ P₁ h₁ => ⟨.next, m, σ₁, rfl, S₁, P₁, h₁⟩) fun _ _ e => e) (not_inter S.ok.kind) (swaps_no hc)
/-! tests -/
variable {QB : Bool → Hp → Prop}
noncomputable def TrAt (X : Fx) (m : Loc) (σ : Hp) (EQ : EPost) (a : AV) (QB : Bool → Hp → Prop) : Prop := ∀ v s, St X m σ s → VR s.heap a v → TtAt X (truthy v) m σ EQ QB s
theorem TrAt.bool {b : Bool} (q : QB b σ) : TrAt X m σ EQ (.bool b) QB := by
  intro v s S r
  obtain rfl := r.boolE
  exact wpAny_truthy_bool ⟨σ, S, .refl S.noL _, q⟩
theorem TrAt.list {x : Addr} {l : List AV} (hm : (x, .list l) ∈ σ) (hz : l.length < 2 ^ 60) (q : QB (!l.isEmpty) σ) : TrAt X m σ EQ (.ref x) QB := by
  intro v s S r
  obtain rfl := r.refE
  obtain ⟨is, ni, hi, z⟩ := S.hr.own _ hm
  have e : (!is.toArray.isEmpty) = !l.isEmpty := by have := z.length; cases is <;> cases l <;> simp_all
  exact wpAny_truthy_list ⟨_, hi, rfl, _, rfl⟩ (by have := z.length; simp only [List.size_toArray]; omega) (by rw [e]; exact ⟨σ, S.toks _, .refl S.noL _, q⟩)
noncomputable def plainTest : Expr → Bool
  | .Name .. | .Call .. | .Attribute .. | .Subscript .. => true
  | _ => false
theorem Tt.plain {e : Expr} (hp : plainTest e = true) (h : Ev X (eval e X.env) m σ EQ fun a σ₁ => TrAt X m σ₁ EQ a QB) : Tt X (isTrue e X.env (eval e X.env)) m σ EQ QB := by
  intro s S
  refine isTrue_plain (ev_then (h s S) (fun v s₁ a σ₁ r₁ S₁ P₁ h₁ => ?_) fun _ _ e => e) (by cases e <;> first | rfl | exact (Bool.false_ne_true hp).elim)
  exact tt_from P₁ (h₁ v s₁ S₁ r₁)
theorem Tt.cmp {l op r pos} (hm : behindInMarks op r = false)
    (h : Ev X (eval l X.env) m σ EQ fun a σ₁ => Ev X (eval r X.env) m σ₁ EQ fun b σ₂ => Op2 X m σ₂ EQ (compareOp op) a b fun c σ₃ => ∃ t, c = .bool t ∧ QB t σ₃) :
    Tt X (isTrue (.Compare l [op] [r] pos) X.env (eval (.Compare l [op] [r] pos) X.env)) m σ EQ QB := by
  intro s S
  refine wpAny_isTrue_Compare1 (ev_then (h s S) (fun v s₁ a σ₁ r₁ S₁ P₁ h₁ => ?_) fun _ _ e => e) hm
  refine ev_then (h₁ s₁ S₁) (fun w s₂ b σ₂ r₂ S₂ P₂ h₂ => ?_) fun _ _ e => e.trans P₁
  refine ev_then (h₂ v w s₂ S₂ (S₁.vr P₂ r₁) r₂) (fun c s₃ t σ₃ r₃ S₃ P₃ h₃ => ?_) fun _ _ e => e.trans (P₁.trans P₂)
  obtain ⟨t, rfl, q⟩ := h₃
  obtain rfl := r₃.boolE
  exact wpAny_truthy_bool ⟨σ₃, S₃, (P₁.trans P₂).trans P₃, q⟩
theorem Tt.not {x pos whole} (h : Tt X (isTrue x X.env (eval x X.env)) m σ EQ fun c σ₁ => QB (!c) σ₁) : Tt X (isTrue (.UnaryOp .Not x pos) X.env whole) m σ EQ QB := by
  intro s S
  exact isTrue_not (tt_then (h s S) (fun b s₁ σ₁ S₁ P₁ h₁ => ⟨σ₁, S₁, P₁, h₁⟩) fun _ _ e => e)
theorem Tt.andNil {pos whole} (q : QB true σ) : Tt X (isTrue (.BoolOp .And [] pos) X.env whole) m σ EQ QB := fun s S => isTrue_and_nil ⟨σ, S, .refl S.noL _, q⟩
theorem Tt.orNil {pos whole} (q : QB false σ) : Tt X (isTrue (.BoolOp .Or [] pos) X.env whole) m σ EQ QB := fun s S => isTrue_or_nil ⟨σ, S, .refl S.noL _, q⟩
noncomputable def andX (X : Fx) (m : Loc) (EQ : EPost) (rest : Sem Bool) (QB : Bool → Hp → Prop) : Bool → Hp → Prop
  | true, σ => Tt X rest m σ EQ QB
  | false, σ => QB false σ
noncomputable def orX (X : Fx) (m : Loc) (EQ : EPost) (rest : Sem Bool) (QB : Bool → Hp → Prop) : Bool → Hp → Prop
  | false, σ => Tt X rest m σ EQ QB
  | true, σ => QB true σ
theorem Tt.and {x rest pos whole} (h : Tt X (isTrue x X.env (eval x X.env)) m σ EQ (andX X m EQ (isTrue (.BoolOp .And rest pos) X.env whole) QB)) :
    Tt X (isTrue (.BoolOp .And (x :: rest) pos) X.env whole) m σ EQ QB := by
  intro s S
  refine isTrue_and (tt_then (h s S) (fun b s₁ σ₁ S₁ P₁ h₁ => ?_) fun _ _ e => e)
  cases b with
  | true => exact tt_from P₁ (h₁ s₁ S₁)
  | false => exact ⟨σ₁, S₁, P₁, h₁⟩
theorem Tt.or {x rest pos whole} (h : Tt X (isTrue x X.env (eval x X.env)) m σ EQ (orX X m EQ (isTrue (.BoolOp .Or rest pos) X.env whole) QB)) :
    Tt X (isTrue (.BoolOp .Or (x :: rest) pos) X.env whole) m σ EQ QB := by
  intro s S
  refine isTrue_or (tt_then (h s S) (fun b s₁ σ₁ S₁ P₁ h₁ => ?_) fun _ _ e => e)
  cases b with
  | false => exact tt_from P₁ (h₁ s₁ S₁)
  | true => exact ⟨σ₁, S₁, P₁, h₁⟩
noncomputable def ifX (X : Fx) (m : Loc) (EQ : EPost) (a b : List Stmt) (QS : AF → Loc → Hp → Prop) : Bool → Hp → Prop
  | true, σ => Xs X (execs a X.env) m σ EQ QS
  | false, σ => Xs X (execs b X.env) m σ EQ QS
theorem Xs.ite {test : Expr} {body orelse : List Stmt} {pos : Pos} (h : Tt X (isTrue test X.env (eval test X.env)) m σ EQ (ifX X m EQ body orelse QS)) : Xs X (exec (.If test body orelse pos) X.env) m σ EQ QS := by
  intro s S
  refine wpAny_If (tt_then (h s S) (fun b s₁ σ₁ S₁ P₁ h₁ => ?_) fun _ _ e => e)
  cases b with
  | true => exact xs_from P₁ (h₁ s₁ S₁)
  | false => exact xs_from P₁ (h₁ s₁ S₁)
noncomputable def ifE (X : Fx) (m : Loc) (EQ : EPost) (a b : Expr) (Q : AV → Hp → Prop) : Bool → Hp → Prop
  | true, σ => Ev X (eval a X.env) m σ EQ Q
  | false, σ => Ev X (eval b X.env) m σ EQ Q
theorem Ev.ite {test body orelse : Expr} {pos : Pos} (h : Tt X (isTrue test X.env (eval test X.env)) m σ EQ (ifE X m EQ body orelse Q)) : Ev X (eval (.IfExp test body orelse pos) X.env) m σ EQ Q := by
  intro s S
  refine IfExp_ (tt_then (h s S) (fun b s₁ σ₁ S₁ P₁ h₁ => ?_) fun _ _ e => e)
  cases b with
  | true => exact ev_from P₁ (h₁ s₁ S₁)
  | false => exact ev_from P₁ (h₁ s₁ S₁)
end
open PySem PySem.W PySem.Calls PyProof.Rows PySem.SeqAt
noncomputable def aget {κ : Type} [DecidableEq κ] (kvs : List (κ × AV)) (k : κ) : Option AV := (kvs.find? fun kv => kv.1 = k).map (·.2)
noncomputable def aput {κ : Type} [DecidableEq κ] (kvs : List (κ × AV)) (k : κ) (v : AV) : List (κ × AV) :=
  if kvs.any (fun kv => kv.1 = k) then kvs.map (fun kv => if kv.1 = k then (kv.1, v) else kv) else kvs ++ [(k, v)]
section
variable {κ : Type} [DecidableEq κ] {h : Heap}
theorem PR.get {l : List (κ × AV)} {r : List (κ × Value)} (p : PR h l r) (k : κ) : OVR h (aget l k) (valueAt r k) := by
  induction p with
  | nil => rfl
  | @cons k' x v l r q _ ih =>
    unfold aget valueAt at *
    by_cases e : k' = k
    · simp only [List.find?_cons, e, decide_true, Option.map_some]; exact ⟨v, rfl, q⟩
    · simp only [List.find?_cons, e, decide_false]; exact ih
theorem PR.any {l : List (κ × AV)} {r : List (κ × Value)} (p : PR h l r) (k : κ) : l.any (fun kv => kv.1 = k) = r.any (fun kv => kv.1 = k) := by
  induction p with
  | nil => rfl
  | cons _ _ ih => simp [ih]
theorem PR.len {l : List (κ × AV)} {r : List (κ × Value)} (p : PR h l r) : l.length = r.length := by
  induction p with
  | nil => rfl
  | cons _ _ ih => simp [ih]
theorem PR.map {l : List (κ × AV)} {r : List (κ × Value)} (p : PR h l r) (k : κ) {a : AV} {v : Value} (q : VR h a v) :
    PR h (l.map fun kv => if kv.1 = k then (kv.1, a) else kv) (r.map fun kv => if kv.1 = k then (kv.1, v) else kv) := by
  induction p with
  | nil => exact .nil
  | @cons k' x w l r q' _ ih =>
    simp only [List.map_cons]
    by_cases e : k' = k
    · simp only [e, if_true]; exact .cons q ih
    · simp only [e, if_false]; exact .cons q' ih
theorem PR.snoc {l : List (κ × AV)} {r : List (κ × Value)} (p : PR h l r) (k : κ) {a : AV} {v : Value} (q : VR h a v) : PR h (l ++ [(k, a)]) (r ++ [(k, v)]) := by
  induction p with
  | nil => exact .cons q .nil
  | cons q' _ ih => exact .cons q' ih
theorem PR.put {l : List (κ × AV)} {r : List (κ × Value)} (p : PR h l r) (k : κ) {a : AV} {v : Value} (q : VR h a v) : PR h (aput l k a) (stored r k v) := by
  unfold aput stored
  rw [← p.any k]
  split
  · exact p.map k q
  · exact p.snoc k q
theorem PRH.get {l : List (κ × AV)} {r : List (κ × Addr × Value)} (p : PRH h l r) (k : κ) : OVR h (aget l k) ((atKey r k).map (·.2)) := by
  induction p with
  | nil => rfl
  | @cons k' x a v l r q _ ih =>
    unfold aget atKey at *
    by_cases e : k' = k
    · simp only [List.find?_cons, e, decide_true, Option.map_some]; exact ⟨v, rfl, q⟩
    · simp only [List.find?_cons, e, decide_false]; exact ih
theorem PRH.len {l : List (κ × AV)} {r : List (κ × Addr × Value)} (p : PRH h l r) : l.length = r.length := by
  induction p with
  | nil => rfl
  | cons _ _ ih => simp [ih]
theorem PRH.any {l : List (κ × AV)} {r : List (κ × Addr × Value)} (p : PRH h l r) (k : κ) : l.any (fun kv => kv.1 = k) = (atKey r k).isSome := by
  induction p with
  | nil => rfl
  | @cons k' x a v l r _ _ ih =>
    unfold atKey at *
    by_cases e : k' = k
    · simp [List.find?_cons, e]
    · simp only [List.any_cons, List.find?_cons, e, decide_false, Bool.false_or]; exact ih
theorem PRH.map {l : List (κ × AV)} {r : List (κ × Addr × Value)} (p : PRH h l r) (k : κ) {a : AV} {v : Value} (q : VR h a v) :
    PRH h (l.map fun kv => if kv.1 = k then (kv.1, a) else kv) (r.map (putAt k v)) := by
  induction p with
  | nil => exact .nil
  | @cons k' x w v' l r q' _ ih =>
    simp only [List.map_cons, putAt]
    by_cases e : k' = k
    · simp only [e, if_true]; exact .cons q ih
    · simp only [e, if_false]; exact .cons q' ih
theorem PRH.snoc {l : List (κ × AV)} {r : List (κ × Addr × Value)} (p : PRH h l r) (k : κ) {a : AV} {v : Value} (q : VR h a v) (ad : Addr) : PRH h (l ++ [(k, a)]) (r ++ [(k, ad, v)]) := by
  induction p with
  | nil => exact .cons q .nil
  | cons q' _ ih => exact .cons q' ih
theorem PRH.put {l : List (κ × AV)} {r : List (κ × Addr × Value)} (p : PRH h l r) (k : κ) {a : AV} {v : Value} (q : VR h a v) (ad : Addr) : PRH h (aput l k a) (storedH r k ad v) := by
  unfold aput storedH
  rw [← p.any k]
  split
  · exact p.map k q
  · exact p.snoc k q ad
theorem OVR.isSome {a : Option AV} {v : Option Value} (r : OVR h a v) : v.isSome = a.isSome := by
  cases a with
  | none => rw [show v = none from r]; rfl
  | some a => obtain ⟨x, rfl, _⟩ := r; rfl
theorem OVR.getD {a : Option AV} {v : Option Value} (r : OVR h a v) {d : AV} {w : Value} (q : VR h d w) : VR h (a.getD d) (v.getD w) := by
  cases a with
  | none => rw [show v = none from r]; exact q
  | some a => obtain ⟨x, rfl, y⟩ := r; exact y
end
section
variable {X : Fx} {m : Loc} {σ : Hp} {EQ : EPost} {Q : AV → Hp → Prop}
theorem not_sys {s : Shared} {d : Addr} {o : AO} (S : St X m σ s) (hm : (d, o) ∈ σ) : (d == sysModules) = false := by
  have := S.hr.lo _ hm
  have h2 : 2 ≤ d := this
  rw [beq_eq_false_iff_ne]
  intro e
  rw [e] at h2
  exact absurd h2 (by decide)
/-- the key of a dict as a value -/
class Keyed (κ : Type) [DecidableEq κ] where
  ao : List (κ × AV) → AO
  av : κ → AV
  draws : κ → Nat
  get : ∀ {X : Fx} {m : Loc} {σ : Hp} {s : Shared} {d : Addr} {kvs : List (κ × AV)} {k : κ} {v w : Value} {a : AV} {R : Value → Shared → Prop} {E : Value → Shared → Prop}, St X m σ s → 1 ≤ X.n → (d, ao kvs) ∈ σ → VR s.heap (av k) v → VR s.heap a w →
    (∀ y t, VR s.heap ((aget kvs k).getD a) y → R y { s with toks := t }) → wpAny X.M X.A (call (.builtin "dict.get") [.ref d, v, w]) R E s
  get1 : ∀ {X : Fx} {m : Loc} {σ : Hp} {s : Shared} {d : Addr} {kvs : List (κ × AV)} {k : κ} {v : Value} {R : Value → Shared → Prop} {E : Value → Shared → Prop}, St X m σ s → 1 ≤ X.n → (d, ao kvs) ∈ σ → VR s.heap (av k) v →
    (∀ y t, VR s.heap ((aget kvs k).getD .none) y → R y { s with toks := t }) → wpAny X.M X.A (call (.builtin "dict.get") [.ref d, v]) R E s
  has : ∀ {X : Fx} {m : Loc} {σ : Hp} {s : Shared} {d : Addr} {kvs : List (κ × AV)} {k : κ} {v : Value} {R : Value → Shared → Prop} {E : Value → Shared → Prop}, St X m σ s → 1 ≤ X.n → (d, ao kvs) ∈ σ → VR s.heap (av k) v →
    (∀ t, R (.bool (aget kvs k).isSome) { s with toks := t }) → wpAny X.M X.A (compareOp .In v (.ref d)) R E s
  item : ∀ {X : Fx} {m : Loc} {σ : Hp} {s : Shared} {d : Addr} {kvs : List (κ × AV)} {k : κ} {v : Value} {a : AV} {R : Value → Shared → Prop} {E : Value → Shared → Prop}, St X m σ s → 1 ≤ X.n → (d, ao kvs) ∈ σ → VR s.heap (av k) v → aget kvs k = some a →
    (∀ y t, VR s.heap a y → R y { s with toks := t }) → wpAny X.M X.A (getItem (.ref d) v) R E s
  put : ∀ {X : Fx} {m : Loc} {σ : Hp} {s : Shared} {d : Addr} {kvs : List (κ × AV)} {k : κ} {v w : Value} {a : AV} {R : Unit → Shared → Prop} {E : Value → Shared → Prop}, St X m σ s → 1 ≤ X.n → (d, ao kvs) ∈ σ → VR s.heap (av k) v → VR s.heap a w → kvs.length ≤ 100000 →
    (∀ h' t, ORel X.G h' d (ao (aput kvs k a)) → Heap.SameBut d s.heap h' → R () { s with heap := h', toks := t }) → wpAny X.M X.A (setItem (.ref d) v w) R E s
  typ : ∀ {G : Gl} {s : Shared} {d : Addr} {kvs : List (κ × AV)}, ORel G s.heap d (ao kvs) → s.TypeIs (.ref d) "dict" ∧ ∃ o, s.heap.get? d = some o ∧ o.dict = none
theorem sizeLine_big : 100000 ≤ sizeLine := by rw [sizeLine_eq]; omega
noncomputable instance : Keyed Str where
  ao := .dS
  av := .str
  draws _ := 1
  get := by
    intro X m σ s d kvs k v w a R E S hn hm hk ha h
    obtain ⟨r, hd, p⟩ := S.hr.own _ hm
    obtain ⟨t, rfl⟩ := hk.strE
    exact call_meetsIn PySem.F.slot_dict_get hd.typeIs PySem.F.entry_dict_get (PySem.F.args_dict_get_3 _ _ _) (meets_dict_get_default (strKind X.G.prog X.G.w) d (strKind_is X.G.prog X.G.w k t) (not_sys S hm) w) ⟨_, hd.mapOf, h _ _ ((p.get k).getD ha)⟩
  get1 := by
    intro X m σ s d kvs k v R E S hn hm hk h
    obtain ⟨r, hd, p⟩ := S.hr.own _ hm
    obtain ⟨t, rfl⟩ := hk.strE
    exact call_meetsIn PySem.F.slot_dict_get hd.typeIs PySem.F.entry_dict_get (PySem.F.args_dict_get_2 _ _) (meets_dict_get (strKind X.G.prog X.G.w) d (strKind_is X.G.prog X.G.w k t) (not_sys S hm)) ⟨_, hd.mapOf, h _ _ ((p.get k).getD .noneI)⟩
  has := by
    intro X m σ s d kvs k v R E S hn hm hk h
    obtain ⟨r, hd, p⟩ := S.hr.own _ hm
    obtain ⟨t, rfl⟩ := hk.strE
    exact wpAny_in_of (strKind_is X.G.prog X.G.w k t) (not_sys S hm) hd.mapOf (by rw [(p.get k).isSome]; exact h _)
  item := by
    intro X m σ s d kvs k v a R E S hn hm hk hg h
    obtain ⟨r, hd, p⟩ := S.hr.own _ hm
    obtain ⟨t, rfl⟩ := hk.strE
    have q := p.get k
    rw [hg] at q
    obtain ⟨y, hy, ry⟩ := q
    exact wpAny_getItem_of (strKind_is X.G.prog X.G.w k t) hd.mapOf hy (h _ _ ry)
  put := by
    intro X m σ s d kvs k v w a R E S hn hm hk ha hz h
    obtain ⟨r, hd, p⟩ := S.hr.own _ hm
    obtain ⟨t, rfl⟩ := hk.strE
    refine wpAny_setItem_pairs (strKind_is X.G.prog X.G.w k t) hd (fun h' hd' hs => h _ _ ⟨_, hd', ?_⟩ hs) (by rw [← p.len]; have := sizeLine_big; omega)
    exact (p.put k ha).keep (IsTup.keepBut (a := d) (fun b x hb e => (hs.2 b hb).trans e) fun items => (S.hr.own _ hm).noTup)
  typ := by
    intro G s d kvs r
    obtain ⟨r, hd, p⟩ := r
    obtain ⟨o, es, ep, ho, hx, _⟩ := hd
    exact ⟨⟨o, ho, hx.1⟩, o, ho, hx.2.1⟩
noncomputable instance : Keyed Int where
  ao := .dI
  av := .int
  draws _ := 1
  get := by
    intro X m σ s d kvs k v w a R E S hn hm hk ha h
    obtain ⟨r, hd, p⟩ := S.hr.own _ hm
    obtain ⟨t, rfl⟩ := hk.intE
    exact call_meetsIn PySem.F.slot_dict_get hd.typeIs PySem.F.entry_dict_get (PySem.F.args_dict_get_3 _ _ _) (meets_dict_get_default (intKind X.G.prog X.G.w) d (intKind_is X.G.prog X.G.w k t) (not_sys S hm) w) ⟨_, hd.mapOf, h _ _ ((p.get k).getD ha)⟩
  get1 := by
    intro X m σ s d kvs k v R E S hn hm hk h
    obtain ⟨r, hd, p⟩ := S.hr.own _ hm
    obtain ⟨t, rfl⟩ := hk.intE
    exact call_meetsIn PySem.F.slot_dict_get hd.typeIs PySem.F.entry_dict_get (PySem.F.args_dict_get_2 _ _) (meets_dict_get (intKind X.G.prog X.G.w) d (intKind_is X.G.prog X.G.w k t) (not_sys S hm)) ⟨_, hd.mapOf, h _ _ ((p.get k).getD .noneI)⟩
  has := by
    intro X m σ s d kvs k v R E S hn hm hk h
    obtain ⟨r, hd, p⟩ := S.hr.own _ hm
    obtain ⟨t, rfl⟩ := hk.intE
    exact wpAny_in_of (intKind_is X.G.prog X.G.w k t) (not_sys S hm) hd.mapOf (by rw [(p.get k).isSome]; exact h _)
  item := by
    intro X m σ s d kvs k v a R E S hn hm hk hg h
    obtain ⟨r, hd, p⟩ := S.hr.own _ hm
    obtain ⟨t, rfl⟩ := hk.intE
    have q := p.get k
    rw [hg] at q
    obtain ⟨y, hy, ry⟩ := q
    exact wpAny_getItem_of (intKind_is X.G.prog X.G.w k t) hd.mapOf hy (h _ _ ry)
  put := by
    intro X m σ s d kvs k v w a R E S hn hm hk ha hz h
    obtain ⟨r, hd, p⟩ := S.hr.own _ hm
    obtain ⟨t, rfl⟩ := hk.intE
    refine wpAny_setItem_pairs (intKind_is X.G.prog X.G.w k t) hd (fun h' hd' hs => h _ _ ⟨_, hd', ?_⟩ hs) (by rw [← p.len]; have := sizeLine_big; omega)
    exact (p.put k ha).keep (IsTup.keepBut (a := d) (fun b x hb e => (hs.2 b hb).trans e) fun items => (S.hr.own _ hm).noTup)
  typ := by
    intro G s d kvs r
    obtain ⟨r, hd, p⟩ := r
    obtain ⟨o, es, ep, ho, hx, _⟩ := hd
    exact ⟨⟨o, ho, hx.1⟩, o, ho, hx.2.1⟩
theorem ints_items {prog : Program} {w : World} {h : Heap} : ∀ {ks : List Int} {vs : List Value}, VRs h (ks.map AV.int) vs → ItemsAre (intKind prog w) ks vs
  | [], _, e => by obtain rfl := e.nilE; exact .nil
  | k :: ks, _, e => by
    obtain ⟨v, r, rfl, h1, h2⟩ := e.consE
    obtain ⟨t, rfl⟩ := h1.intE
    exact .cons (intKind_is prog w k t) (ints_items h2)
theorem ints_key {prog : Program} {w : World} {h : Heap} {ks : List Int} {v : Value} (r : VR h (.tup (ks.map AV.int)) v) : ∃ a, v = .ref a ∧ IsTupleKey (intKind prog w) h ks a := by
  obtain ⟨a, items, rfl, ⟨o, ho, hc, n, hd⟩, z⟩ := r.tupE
  exact ⟨a, rfl, o, _, n, ho, hc, hd, by simpa using ints_items z⟩
noncomputable instance : Keyed (List Int) where
  ao := .dT
  av ks := .tup (ks.map .int)
  draws ks := ks.length + 1
  get := by
    intro X m σ s d kvs k v w a R E S hn hm hk ha h
    obtain ⟨r, hd, p⟩ := S.hr.own _ hm
    obtain ⟨ad, rfl, tk⟩ := ints_key (prog := X.G.prog) (w := X.G.w) hk
    have hu := S.units
    exact call_meetsIn PySem.F.slot_dict_get hd.typeIs PySem.F.entry_dict_get (PySem.F.args_dict_get_3 _ _ _) (meetsH_dict_get_default (tupleKind (intKind X.G.prog X.G.w)) d ad (not_sys S hm) w) ⟨tupleKind_room_in1 (knd := intKind X.G.prog X.G.w) (by omega), k, _, tk, hd, h _ _ ((p.get k).getD ha)⟩
  get1 := by
    intro X m σ s d kvs k v R E S hn hm hk h
    obtain ⟨r, hd, p⟩ := S.hr.own _ hm
    obtain ⟨ad, rfl, tk⟩ := ints_key (prog := X.G.prog) (w := X.G.w) hk
    have hu := S.units
    exact call_meetsIn PySem.F.slot_dict_get hd.typeIs PySem.F.entry_dict_get (PySem.F.args_dict_get_2 _ _) (meetsH_dict_get (tupleKind (intKind X.G.prog X.G.w)) d ad (not_sys S hm)) ⟨tupleKind_room_in1 (knd := intKind X.G.prog X.G.w) (by omega), k, _, tk, hd, h _ _ ((p.get k).getD .noneI)⟩
  has := by
    intro X m σ s d kvs k v R E S hn hm hk h
    obtain ⟨r, hd, p⟩ := S.hr.own _ hm
    obtain ⟨ad, rfl, tk⟩ := ints_key (prog := X.G.prog) (w := X.G.w) hk
    have hu := S.units
    refine wpAny_in_heap (knd := tupleKind (intKind X.G.prog X.G.w)) (tupleKind_room_in1 (by omega)) tk (not_sys S hm) hd ?_
    have : (atKey r k).isSome = (aget kvs k).isSome := by rw [← (p.get k).isSome]; cases atKey r k <;> rfl
    rw [this]; exact h _
  item := by
    intro X m σ s d kvs k v a R E S hn hm hk hg h
    obtain ⟨r, hd, p⟩ := S.hr.own _ hm
    obtain ⟨ad, rfl, tk⟩ := ints_key (prog := X.G.prog) (w := X.G.w) hk
    have hu := S.units
    have q := p.get k
    rw [hg] at q
    obtain ⟨y, hy, ry⟩ := q
    obtain ⟨⟨a', y'⟩, hp, e⟩ := Option.map_eq_some_iff.mp hy
    cases e
    exact wpAny_getItem_heap (knd := tupleKind (intKind X.G.prog X.G.w)) (tupleKind_room_in1 (by omega)) tk hd hp (h _ _ ry)
  put := by
    intro X m σ s d kvs k v w a R E S hn hm hk ha hz h
    obtain ⟨r, hd, p⟩ := S.hr.own _ hm
    obtain ⟨ad, rfl, tk⟩ := ints_key (prog := X.G.prog) (w := X.G.w) hk
    have hu := S.units
    refine wpAny_setItem_heap (knd := tupleKind (intKind X.G.prog X.G.w)) (tupleKind_room_in1 (by omega)) tk hd (fun h' hd' hs => h _ _ ⟨_, hd', ?_⟩ hs) (by rw [← p.len]; have := sizeLine_big; omega)
    exact (p.put k ha ad).keep (IsTup.keepBut (a := d) (fun b x hb e => (hs.2 b hb).trans e) fun items => (S.hr.own _ hm).noTup)
  typ := by
    intro G s d kvs r
    obtain ⟨r, hd, p⟩ := r
    obtain ⟨o, es, ep, ho, hx, _⟩ := hd
    exact ⟨⟨o, ho, hx.1⟩, o, ho, hx.2.1⟩
end
open PySem PySem.W PySem.Calls PyProof.Rows PySem.SeqAt
section
variable {X : Fx} {m : Loc} {σ : Hp} {EQ : EPost} {Q : AV → Hp → Prop} {QS : AF → Loc → Hp → Prop}
/-! stores -/
theorem obj_putName {o : Obj} {es : Array DictEntry} {ep : Nat} (hd : o.data = .dict es ep) (name : Str) (h : Int) (key v : Value) :
    ∃ es' ep', (Obj.putName name h key v o).data = .dict es' ep' ∧ (es' = match es.findIdx? (fun x => x.key.isStr name) with | some i => es.modify i fun e => { e with val := v } | none => es.push ⟨h, key, v⟩) := by
  obtain ⟨c, d, dt, sl⟩ := o
  simp only at hd; subst hd
  rw [Obj.putName_eq]
  unfold Obj.putNameByArray
  dsimp only
  cases es.findIdx? (fun x => x.key.isStr name) with
  | none => exact ⟨_, _, rfl, rfl⟩
  | some i => exact ⟨_, _, rfl, rfl⟩
set_option maxHeartbeats 1000000 in
theorem setAttr_own {x C dx : Addr} {attr : Str} {names : List Str} {vals vals' : List (Option AV)} {i : Nat} {a : AV} {v : Value} {s : Shared} {σ' : Hp} {R : Unit → Shared → Prop} {E : Value → Shared → Prop}
    (S : St X m σ s) (hx : (x, .inst C dx) ∈ σ) (u : UpdL dx (.ns names vals) (.ns names vals') σ σ') (c : AtC X.G.K C attr) (w : StC X.G.K C) (n : NIx names attr i) (g : SetAt vals i a vals') (hz : vals.length ≤ 900) (hi : i ≤ 900)
    (r : VR s.heap a v) (q : ∀ s', St X m σ' s' → Step X.L σ σ' s.heap s'.heap → R () s') : wpAny X.M X.A (setAttr (.ref x) attr v) R E s := by
  obtain ⟨o, es, ep, I, h2, h3, h4, h5, h6⟩ := S.inst hx u.mem
  have X1 := S.kin
  refine set_plain X1 I w.set ?_
  have ht : takerIn X.G.K C attr = some none := by unfold takerIn; rw [c.fnd]; rfl
  refine osa_open (s := { s with toks := s.toks + 1 }) X1 I w.over ht fun b => ?_
  obtain ⟨cd, hc, hd'⟩ := any_some c.dict
  refine wpAny_bind (wpAny_pure (wpAny_bind (wpAny_bind (wpAny_loadPart I.at_ (wpAny_bind ((looks_clsIn (M := model X.G.prog X.G.w) X1 hc) _ _ _ _ (fun _ _ e => e) ?_))))))
  rw [hd']
  refine wpAny_pure (a := some dx) (wpAny_bind (wpAny_pure (wpAny_bind ?_)))
  unfold nsSet
  refine wpAny_bind (wpAny_bind (wpAny_askSetting (wpAny_pure (wpAny_bind (wpAny_mkText (wpAny_bind (wpAny_loadPart h2 ?_)))))))
  rw [h3]
  dsimp only
  have hno : (!es.any (·.key.isStr attr) && es.any (·.refKey)) = false := by
    have : es.any (·.refKey) = false := by
      rw [Array.any_eq_false']; intro e he; obtain ⟨n, t, h⟩ := h4 e he; simp [DictEntry.refKey, h]
    rw [this, Bool.and_false]
  rw [aRefKeyMayBeTheName_at, hno]
  refine wpAny_updatePart h2 ?_
  generalize hH : (if attr.cps.isEmpty = true then (0 : Int) else reduceHash ((model X.G.prog X.G.w).w.params.strHash attr.cps)) = H
  obtain ⟨es', ep', e1, e2⟩ := obj_putName h3 attr H (.str attr (s.toks + 1)) v
  have hfree : (Obj.putName attr H (.str attr (s.toks + 1)) v o).isFreed = false := Obj.isFreed_of_dict e1
  have get' := Heap.get?_update_self (Obj.putName attr H (.str attr (s.toks + 1)) v) h2 hfree
  have sz : es'.size ≤ vals'.countP (·.isSome) := by
    rw [g.count, e2]
    cases hq : es.findIdx? (fun x => x.key.isStr attr) with
    | some j => simp only [Array.size_modify]; omega
    | none =>
      simp only [Array.size_push]
      have hf := h5 attr
      have hnone : nsFind es attr = none := by unfold nsFind; rw [findBy_of_findIdx?, hq]
      rw [hnone] at hf
      have : (vals[i]?).join = none := by
        have e : getN names vals attr = (vals[i]?).join := by unfold getN; rw [show names.findIdx? (· == attr) = some i from n]
        rw [e] at hf
        cases hj : (vals[i]?).join with
        | none => rfl
        | some a => rw [hj] at hf; obtain ⟨_, h, _⟩ := hf; cases h
      rw [this]; simp; omega
  have szz : es'.size ≤ sizeLine + 1 := by
    have h1 := g.len
    have h2 : vals'.countP (·.isSome) ≤ vals'.length := List.countP_le_length
    rw [sizeLine_eq]; omega
  have sk : StrKeys es' := by
    rw [e2]
    cases es.findIdx? (fun x => x.key.isStr attr) with
    | some j => exact h4.modify j v
    | none => exact h4.push H attr _ v
  have fnd : ∀ y, nsFind es' y = if y = attr then some v else nsFind es y := by
    intro y
    rw [e2]
    cases hq : es.findIdx? (fun x => x.key.isStr attr) with
    | some j => exact findBy_modify (fun n v => v.isStr n) Value.isStr_inj es attr y v j hq
    | none =>
      refine findBy_push (fun n v => v.isStr n) es attr y H (.str attr (s.toks + 1)) v (fun y => ?_) hq
      show (attr == y) = _
      by_cases e : y = attr
      · rw [e, decide_eq_true rfl]; exact beq_self_eq_true attr
      · rw [decide_eq_false e]; exact beq_eq_false_iff_ne.mpr (Ne.symm e)
  have keep : ∀ b x, b ≠ dx → s.heap.get? b = some x → (s.heap.update dx (Obj.putName attr H (.str attr (s.toks + 1)) v)).get? b = some x := fun b x hb e => (Heap.get?_update_other _ _ (Ne.symm hb)).trans e
  have kt := IsTup.keepBut keep (fun items => (S.hr.own _ u.mem).noTup)
  have P := S.upd (tk := s.toks + 1 + 1) u keep ⟨_, es', ep', get', e1, sk, fun y => by
    rw [getN_set n g y, fnd y]
    by_cases e : y = attr
    · rw [if_pos e, if_pos e]; exact ⟨v, rfl, r.keep kt⟩
    · rw [if_neg e, if_neg e]; exact (h5 y).keep kt, sz⟩
  refine wpAny_bind (wpAny_lookBehind get' (by rw [e1]; exact pastItsLine_dict szz) (wpAny_pure ?_))
  exact q _ P.1 P.2
theorem Xs.setAttr {o value : Expr} {attr : Str} {pos' pos : Pos} (hc : noComp value = true)
    (h : Ev X (eval value X.env) m σ EQ fun a σ₁ => Ev X (eval o X.env) m σ₁ EQ fun ov σ₂ => ∃ x C dx names vals vals' i σ', ov = .ref x ∧ (x, .inst C dx) ∈ σ₂ ∧ UpdL dx (.ns names vals) (.ns names vals') σ₂ σ' ∧ AtC X.G.K C attr ∧ StC X.G.K C ∧ NIx names attr i ∧ SetAt vals i a vals' ∧
      vals.length ≤ 900 ∧ i ≤ 900 ∧ QS .next m σ') : Xs X (exec (.Assign [.Attribute o attr pos'] value pos) X.env) m σ EQ QS := by
  intro s S
  refine plainObj_wpAny_Assign_Attribute (ev_then (h s S) (fun v s₁ a σ₁ r₁ S₁ P₁ h₁ => ?_) fun _ _ e => e) (swaps_no hc)
  refine ev_then (h₁ s₁ S₁) (fun w s₂ b σ₂ r₂ S₂ P₂ h₂ => ?_) fun _ _ e => e.trans P₁
  obtain ⟨x, C, dx, names, vals, vals', i, σ', rfl, hx, u, c, wc, n, g, hz, hi, q⟩ := h₂
  obtain rfl := r₂.refE
  exact setAttr_own S₂ hx u c wc n g hz hi (S₁.vr P₂ r₁) fun s' S' P' => ⟨.next, m, σ', rfl, S', (P₁.trans P₂).trans P', q⟩
theorem Xs.setItem {κ : Type} [DecidableEq κ] [Keyed κ] {o i value : Expr} {pos' pos : Pos} (hc : noComp value = true)
    (h : Ev X (eval value X.env) m σ EQ fun a σ₁ => Ev X (eval o X.env) m σ₁ EQ fun ov σ₂ => Ev X (eval i X.env) m σ₂ EQ fun kv σ₃ => ∃ d kvs k σ', ov = .ref d ∧ kv = Keyed.av (κ := κ) k ∧ UpdL d (Keyed.ao kvs) (Keyed.ao (aput kvs k a)) σ₃ σ' ∧ kvs.length ≤ 100000 ∧ 1 ≤ X.n ∧ QS .next m σ') :
    Xs X (exec (.Assign [.Subscript o i pos'] value pos) X.env) m σ EQ QS := by
  intro s S
  refine wpAny_Assign_Subscript (ev_then (h s S) (fun v s₁ a σ₁ r₁ S₁ P₁ h₁ => ?_) fun _ _ e => e) (swaps_no hc)
  refine ev_then (h₁ s₁ S₁) (fun w s₂ b σ₂ r₂ S₂ P₂ h₂ => ?_) fun _ _ e => e.trans P₁
  refine ev_then (h₂ s₂ S₂) (fun z s₃ c σ₃ r₃ S₃ P₃ h₃ => ?_) fun _ _ e => e.trans (P₁.trans P₂)
  obtain ⟨d, kvs, k, σ', rfl, rfl, u, hz, hn, q⟩ := h₃
  obtain rfl := r₂.refE
  refine Keyed.put (κ := κ) S₃ hn u.mem r₃ (S₂.vr P₃ (S₁.vr P₂ r₁)) hz fun h' t ho hs => ?_
  have P := S₃.upd (tk := t) u (fun b x hb e => (hs.2 b hb).trans e) ho
  exact ⟨.next, m, σ', rfl, P.1, ((P₁.trans P₂).trans P₃).trans P.2, q⟩
theorem Op2.itDict {κ : Type} [DecidableEq κ] [Keyed κ] {value slice : Expr} {d : Addr} {kvs : List (κ × AV)} {k : κ} {a : AV} (hs : plainSlice slice = true) (hn : 1 ≤ X.n) (hm : (d, Keyed.ao kvs) ∈ σ) (hg : aget kvs k = some a) (q : Q a σ) :
    Op2 X m σ EQ (subscriptTail value slice) (.ref d) (Keyed.av k) Q := by
  intro _ w s S r₁ r₂
  obtain rfl := r₁.refE
  exact tail_any (A := X.A) (Keyed.typ (S.hr.own _ hm)).1 slot_dict_getitem.lookup (Keyed.item S hn hm r₂ hg fun y t r => doneT S r q) (subscripted_plain hs _ _)
theorem Op2.inDict {κ : Type} [DecidableEq κ] [Keyed κ] {d : Addr} {kvs : List (κ × AV)} {k : κ} (hn : 1 ≤ X.n) (hm : (d, Keyed.ao kvs) ∈ σ) (q : Q (.bool (aget kvs k).isSome) σ) : Op2 X m σ EQ (compareOp .In) (Keyed.av k) (.ref d) Q := by
  intro v _ s S r₁ r₂
  obtain rfl := r₂.refE
  exact Keyed.has S hn hm r₁ fun t => doneT S .boolI q
/-! calls -/
noncomputable def keepOk (K : Frag) : AV → Bool
  | .ref a => keepIn K (.ref a)
  | .oth (.builtin _) => true
  | .oth (.type _) => true
  | _ => false
theorem keeper_ok {K : Frag} {f : AV} {vf : Value} {h₀ : Heap} (hk : keepOk K f = true) (r : VR h₀ f vf) (M : Model) (h : Heap) (XK : K.In h) : ∃ k, (k = Keeper.frame ∨ k = Keeper.machine ∨ k = Keeper.boundFrame) ∧ Looks M h (keeperOf vf) k := by
  cases f with
  | ref a => obtain rfl := r.refE; exact keeps_K (K := K) (f := .ref a) (show keepIn K (.ref a) = true from hk) h XK
  | oth v =>
    obtain rfl := r.othE
    cases vf <;> first | exact ⟨.machine, .inr (.inl rfl), Looks.of_pure rfl⟩ | exact (Bool.false_ne_true hk).elim
  | _ => exact (Bool.false_ne_true hk).elim
/-- the call of a value, upon arguments of whom these things are known -/
noncomputable def Cl (X : Fx) (m : Loc) (σ : Hp) (EQ : EPost) (f : AV) (l : List AV) (Q : AV → Hp → Prop) : Prop :=
  ∀ vf vs s, St X m σ s → VR s.heap f vf → VRs s.heap l vs → EvAt X (call vf vs) m σ EQ Q s
theorem evalArgs_list {M : Model} {A : Around} {E : Value → Shared → Prop} {s : Shared} {f : Value} {env : Env} {es : List Expr} {R : Args → Shared → Prop}
    (h : wpAny M A (spliced (es.map fun e => (false, eval e env))) (fun vs s' => R ⟨vs, []⟩ s') E s) : wpAny M A (evalArgs f true (es.map fun e => (false, eval e env)) []) R E s := by
  cases es with
  | nil =>
    unfold evalArgs
    show wpAny M A (spliced [] >>= _) _ _ _
    refine wpAny_bind (wpAny_mono h (fun vs s' h' => wpAny_bind (wpAny_pure ?_)) fun _ _ e => e)
    refine wpAny_holding ?_
    exact wpAny_bind (wpAny_pure (wpAny_bind (wpAny_pure (wpAny_pure h'))))
  | cons e r => exact Calls.evalArgs_plain h
theorem callWith_list {pos : Pos} {f : AV} {first : List AV} {vf : Value} {vfirst : List Value} {es : List Expr} {s : Shared} (S : St X m σ s) (hk : keepOk X.G.K f = true) (rf : VR s.heap f vf) (rr : VRs s.heap first vfirst) (hs : noStar es = true)
    (h : EvL X es m σ EQ fun l σ₁ => Cl X m σ₁ EQ f (first ++ l) Q) : EvAt X (callWith pos vf vfirst (backTo pos (starEach es X.env)) []) m σ EQ Q s := by
  rw [backTo_plain hs]
  refine callWith_of (P := X.G.K.In) (by simp) (fun h XK => keeper_ok hk rf X.M h XK) (evalArgs_list (evs_then ((Evs.of h) s S) (fun vs s₁ l σ₁ r₁ S₁ P₁ h₁ => ⟨S₁.kin, ?_⟩) fun _ _ e => e))
  exact ev_from P₁ (h₁ vf _ s₁ S₁ (S.vr P₁ rf) ((S.vrs P₁ rr).append r₁))
end
open PySem PySem.W PySem.Calls PyProof.Rows PySem.SeqAt
section
variable {X : Fx} {m : Loc} {σ : Hp} {EQ : EPost} {Q : AV → Hp → Prop} {QS : AF → Loc → Hp → Prop}
/-! calls by a name, by a method -/
theorem Ev.callN {id : Str} {p pos : Pos} {args : List Expr} (hs : noStar args = true)
    (h : Ev X (eval (.Name id p) X.env) m σ EQ fun f σ₁ => keepOk X.G.K f = true ∧ EvL X args m σ₁ EQ fun l σ₂ => Cl X m σ₂ EQ f l Q) : Ev X (eval (.Call (.Name id p) args [] pos) X.env) m σ EQ Q := by
  intro s S
  refine wpAny_Call_Name_kw (ev_then (h s S) (fun v s₁ a σ₁ r₁ S₁ P₁ h₁ => ?_) fun _ _ e => e)
  exact ev_from P₁ (callWith_list S₁ h₁.1 r₁ .nil hs h₁.2)
/-- the method of that name of a value: f -/
noncomputable def Mth (X : Fx) (m : Loc) (σ : Hp) (ov : AV) (name : Str) (f : Value) : Prop :=
  ∀ v s pl (R : Value × List Value → Shared → Prop) (E : Value → Shared → Prop), St X m σ s → VR s.heap ov v → R (f, [v]) s → wpAny X.M X.A (getMethod v name pl) R E s
noncomputable def avOf : Value → AV
  | .ref a => .ref a
  | v => .oth v
theorem avOf_vr {h : Heap} {v : Value} : VR h (avOf v) v := by
  cases v <;> first | exact VR.refI | exact VR.othI
theorem Ev.callM {o : Expr} {name : Str} {apos pos : Pos} {args : List Expr} {pl : Sem Bool} (hs : noStar args = true)
    (he : eval (.Call (.Attribute o name apos) args [] pos) X.env = (do
      let ov ← eval o X.env
      standAt apos.atName
      let (f, first) ← holding [ov] (getMethod ov name pl)
      callWith pos f first (backTo pos (starEach args X.env)) (backToKw pos (keywordEach [] X.env))))
    (h : Ev X (eval o X.env) m σ EQ fun ov σ₁ => ∃ f, Mth X m σ₁ ov name f ∧ keepOk X.G.K (avOf f) = true ∧ EvL X args m σ₁ EQ fun l σ₂ => Cl X m σ₂ EQ (avOf f) (ov :: l) Q) :
    Ev X (eval (.Call (.Attribute o name apos) args [] pos) X.env) m σ EQ Q := by
  intro s S
  refine methodCall_KW (pl := pl) (ev_then (h s S) (fun v s₁ a σ₁ r₁ S₁ P₁ h₁ => ?_) fun _ _ e => e) he
  obtain ⟨f, hm, hk, hl⟩ := h₁
  refine hm v s₁ pl _ _ S₁ r₁ ?_
  exact ev_from P₁ (callWith_list S₁ hk avOf_vr (.one r₁) hs hl)
theorem Mth.own {x C dx f : Addr} {name : Str} {names : List Str} {vals : List (Option AV)} (hx : (x, .inst C dx) ∈ σ) (hd : (dx, .ns names vals) ∈ σ) (c : MtC X.G.K C name f)
    (n : names.findIdx? (· == name) = none) : Mth X m σ (.ref x) name (.ref f) := by
  intro v s pl R E S r q
  obtain rfl := r.refE
  exact method_own S hx hd c n q
theorem Mth.list {x : Addr} {l : List AV} {name : Str} {id : String} (hm : (x, .list l) ∈ σ) (slot : Slot "list" name id) (hty : typeOf (.builtin id) = pure (.type "method_descriptor")) : Mth X m σ (.ref x) name (.builtin id) := by
  intro v s pl R E S r q
  obtain rfl := r.refE
  obtain ⟨is, ni, hi, z⟩ := S.hr.own _ hm
  exact getMethod_builtin ⟨_, hi, rfl⟩ PySem.F.plainAttrs_list slot hty (fun a e => by cases e; exact ⟨_, hi, rfl⟩) q
theorem Mth.append {x : Addr} {l : List AV} (hm : (x, .list l) ∈ σ) : Mth X m σ (.ref x) "append" (.builtin "list.append") := by
  intro v s pl R E S r q
  obtain rfl := r.refE
  obtain ⟨is, ni, hi, z⟩ := S.hr.own _ hm
  exact getMethod_list_append hi rfl rfl q
theorem Mth.pop {x : Addr} {l : List AV} (hm : (x, .list l) ∈ σ) : Mth X m σ (.ref x) "pop" (.builtin "list.pop") := .list hm PySem.F.slot_list_pop PySem.F.type_list_pop
theorem Mth.reverse {x : Addr} {l : List AV} (hm : (x, .list l) ∈ σ) : Mth X m σ (.ref x) "reverse" (.builtin "list.reverse") := .list hm PySem.F.slot_list_reverse PySem.F.type_list_reverse
theorem Mth.get {κ : Type} [DecidableEq κ] [Keyed κ] {x : Addr} {l : List (κ × AV)} (hm : (x, Keyed.ao l) ∈ σ) : Mth X m σ (.ref x) "get" (.builtin "dict.get") := by
  intro v s pl R E S r q
  obtain rfl := r.refE
  obtain ⟨ht, o, ho, hd⟩ := Keyed.typ (S.hr.own _ hm)
  exact getMethod_builtin ht PySem.F.plainAttrs_dict PySem.F.slot_dict_get PySem.F.type_dict_get (fun a e => by cases e; exact ⟨o, ho, hd⟩) q
/-! built-in calls -/
theorem Cl.one {f : Value} {a : AV} (h : ∀ v s, St X m σ s → VR s.heap a v → EvAt X (call f [v]) m σ EQ Q s) : Cl X m σ EQ (.oth f) [a] Q := by
  intro vf vs s S rf rs
  obtain rfl := rf.othE
  obtain ⟨v, r, rfl, h1, h2⟩ := rs.consE
  obtain rfl := h2.nilE
  exact h v s S h1
theorem Cl.two {f : Value} {a b : AV} (h : ∀ v w s, St X m σ s → VR s.heap a v → VR s.heap b w → EvAt X (call f [v, w]) m σ EQ Q s) : Cl X m σ EQ (.oth f) [a, b] Q := by
  intro vf vs s S rf rs
  obtain rfl := rf.othE
  obtain ⟨v, r, rfl, h1, h2⟩ := rs.consE
  obtain ⟨w, r, rfl, h3, h4⟩ := h2.consE
  obtain rfl := h4.nilE
  exact h v w s S h1 h3
theorem Cl.three {f : Value} {a b c : AV} (h : ∀ v w z s, St X m σ s → VR s.heap a v → VR s.heap b w → VR s.heap c z → EvAt X (call f [v, w, z]) m σ EQ Q s) : Cl X m σ EQ (.oth f) [a, b, c] Q := by
  intro vf vs s S rf rs
  obtain rfl := rf.othE
  obtain ⟨v, r, rfl, h1, h2⟩ := rs.consE
  obtain ⟨w, r, rfl, h3, h4⟩ := h2.consE
  obtain ⟨z, r, rfl, h5, h6⟩ := h4.consE
  obtain rfl := h6.nilE
  exact h v w z s S h1 h3 h5
theorem Cl.len {x : Addr} {l : List AV} (hm : (x, .list l) ∈ σ) (hz : l.length < 2 ^ 60) (q : Q (.int l.length) σ) : Cl X m σ EQ (.oth (.builtin "len")) [.ref x] Q := .one fun v s S r => by
  obtain rfl := r.refE
  obtain ⟨is, ni, hi, z⟩ := S.hr.own _ hm
  have e : is.toArray.size = l.length := by simp [z.length]
  refine call_len_list ⟨_, hi, rfl, _, rfl⟩ (by rw [e]; omega) ?_
  rw [e]; exact doneT S .intI q
theorem Cl.int {i : Int} (q : Q (.int i) σ) : Cl X m σ EQ (.oth (.type "int")) [.int i] Q := .one fun v s S r => by
  obtain ⟨t, rfl⟩ := r.intE
  exact call_int_int (done S .intI q)
theorem Cl.tuple {l : List AV} (q : Q (.tup l) σ) : Cl X m σ EQ (.oth (.type "tuple")) [.tup l] Q := .one fun v s S r => by
  obtain ⟨a, is, rfl, t, z⟩ := r.tupE
  exact call_tuple_same t (done S (.tupI t z) q)
theorem Cl.range1 {b : Int} (q : ∀ x, Q (.ref x) ((x, .rng 0 b) :: σ)) : Cl X m σ EQ (.oth (.type "range")) [.int b] Q := .one fun v s S r => by
  obtain ⟨t, rfl⟩ := r.intE
  refine call_range_1 ?_
  have P := S.alloc (tk := s.toks + 1 + 1) (a := s.heap.objs.size) (ao := .rng 0 b) (h' := s.heap.push { cls := .type "range", data := .fields #[.int 0 s.toks, .int b t, .int 1 (s.toks + 1)] }) (fun b o e => Heap.get?_push_of_some _ e) (Heap.get?_none_of_le (Nat.le_refl _)) S.two
    ⟨_, _, _, Heap.get?_push_size _ rfl⟩
  exact doneH P .refI (q _)
theorem updList {s : Shared} {x : Addr} {l l' : List AV} {σ' : Hp} {f : Array Value → Array Value} {is : List Value} {ni : Nat} {tk : Nat} (S : St X m σ s) (u : UpdL x (.list l) (.list l') σ σ') (hi : s.heap.get? x = some (listO is ni))
    (h : VRs s.heap l' (f is.toArray).toList) : St X m σ' { s with heap := s.heap.update x (Obj.mapSeq f), toks := tk } ∧ Step X.L σ σ' s.heap (s.heap.update x (Obj.mapSeq f)) := by
  have keep : ∀ b o, b ≠ x → s.heap.get? b = some o → (s.heap.update x (Obj.mapSeq f)).get? b = some o := fun b o hb e => (Heap.get?_update_other _ _ (Ne.symm hb)).trans e
  have kt := IsTup.keepBut keep (fun items => (S.hr.own _ u.mem).noTup)
  have g : (s.heap.update x (Obj.mapSeq f)).get? x = some (Obj.mapSeq f (listO is ni)) := Heap.get?_update_self _ hi rfl
  refine S.upd u keep ⟨(f is.toArray).toList, (if (f is.toArray).size == is.toArray.size then ni else ni + 1), ?_, h.keep kt⟩
  rw [g]
  unfold listO
  rw [Array.toArray_toList]
  rfl
theorem Cl.append {x : Addr} {l : List AV} {a : AV} {σ' : Hp} (u : UpdL x (.list l) (.list (l ++ [a])) σ σ') (hz : l.length ≤ 100000) (q : Q .none σ') : Cl X m σ EQ (.oth (.builtin "list.append")) [.ref x, a] Q := .two fun v w s S r r' => by
  obtain rfl := r.refE
  obtain ⟨is, ni, hi, z⟩ := S.hr.own _ u.mem
  refine call_meets PySem.F.slot_list_append ⟨_, hi, rfl⟩ PySem.F.entry_list_append (PySem.F.args_list_append_2 _ _) (list_append x is.toArray ni w (by simp [z.length]; have := sizeLine_big; omega)) ⟨hi, ?_⟩
  have P := updList (tk := s.toks) (f := fun xs => xs.push w) S u hi (by simpa using z.append (.one r'))
  exact doneH P .noneI q
theorem Cl.pop {x : Addr} {l : List AV} {a : AV} {σ' : Hp} (u : UpdL x (.list (l ++ [a])) (.list l) σ σ') (hz : l.length ≤ 90000) (q : Q a σ') : Cl X m σ EQ (.oth (.builtin "list.pop")) [.ref x] Q := .one fun v s S r => by
  obtain rfl := r.refE
  obtain ⟨is, ni, hi, z⟩ := S.hr.own _ u.mem
  have hl : is.length = l.length + 1 := by simpa using z.length
  obtain ⟨y, hy, ry⟩ := z.get (i := l.length) (a := a) (by simp)
  refine call_meets PySem.F.slot_list_pop ⟨_, hi, rfl⟩ PySem.F.entry_list_pop (PySem.F.args_list_pop_1 _) (MeetsSeq.list_pop_last x is.toArray ni y (by simpa [hl] using hy) (by simp [hl]; have := sizeLine_big; omega)) ⟨hi, ?_⟩
  have P := updList (tk := s.toks) (f := fun xs => xs.eraseIdxIfInBounds (is.toArray.size - 1)) S u hi (by
    have h2 := z.take l.length
    simp only [List.take_left'] at h2
    have e : (is.toArray.eraseIdxIfInBounds (is.toArray.size - 1)).toList = is.take l.length := by
      simp [Array.eraseIdxIfInBounds, hl, List.eraseIdx_eq_take_drop_succ]
    rw [e]; simpa using h2)
  exact doneH P (S.vr P.2 ry) q
theorem Cl.get {κ : Type} [DecidableEq κ] [Keyed κ] {d : Addr} {kvs : List (κ × AV)} {k : κ} {a : AV} (hn : 1 ≤ X.n) (hm : (d, Keyed.ao kvs) ∈ σ) (q : Q ((aget kvs k).getD a) σ) : Cl X m σ EQ (.oth (.builtin "dict.get")) [.ref d, Keyed.av k, a] Q := .three fun v w z s S r r' r'' => by
  obtain rfl := r.refE
  exact Keyed.get S hn hm r' r'' fun y t ry => doneT S ry q
theorem Cl.get1 {κ : Type} [DecidableEq κ] [Keyed κ] {d : Addr} {kvs : List (κ × AV)} {k : κ} (hn : 1 ≤ X.n) (hm : (d, Keyed.ao kvs) ∈ σ) (q : Q ((aget kvs k).getD .none) σ) : Cl X m σ EQ (.oth (.builtin "dict.get")) [.ref d, Keyed.av k] Q := .two fun v w s S r r' => by
  obtain rfl := r.refE
  exact Keyed.get1 S hn hm r' fun y t ry => doneT S ry q
end
open PySem PySem.W PySem.Calls PyProof.Rows PySem.SeqAt
/-- what a call does to the heap -/
structure CStep (σ σ' : Hp) (h h' : Heap) : Prop where
  keep : ∀ b o, b ∉ σ.map (·.1) → h.get? b = some o → h'.get? b = some o
  new : ∀ b ∈ σ'.map (·.1), b ∈ σ.map (·.1) ∨ h.get? b = none
noncomputable def NoE : EPost := fun _ _ => False
noncomputable def CallAt (G : Gl) (A : Around) (f : Value) (args : List AV) (σ : Hp) (Q : AV → Hp → Prop) (s : Shared) (vals : List Value) : Prop :=
  codeAny (model G.prog G.w) A (.call f ⟨vals, []⟩) (fun r s' => ∃ v a σ', r = .ok (.ret v) ∧ VR s'.heap a v ∧ HRel G σ' s'.heap ∧ CStep σ σ' s.heap s'.heap ∧ s'.gens = #[] ∧ s'.os = G.os0 ∧ Q a σ') s
/-- a call that comes back, within n frames -/
noncomputable def CallOk (G : Gl) (n : Nat) (f : Value) (args : List AV) (σ : Hp) (Q : AV → Hp → Prop) : Prop :=
  ∀ A, Rm A n → ∀ s vals, HRel G σ s.heap → s.gens = #[] → s.os = G.os0 → 2 ≤ s.heap.objs.size → VRs s.heap args vals → CallAt G A f args σ Q s vals
theorem CallOk.mono {G : Gl} {n k : Nat} {f : Value} {args : List AV} {σ : Hp} {Q Q' : AV → Hp → Prop} (h : CallOk G n f args σ Q) (hk : n ≤ k) (q : ∀ a σ', Q a σ' → Q' a σ') : CallOk G k f args σ Q' :=
  fun A r s vals h1 h2 h3 h4 h5 => codeAny_mono (h A (r.le hk) s vals h1 h2 h3 h4 h5) fun r s' ⟨v, a, σ', a1, a2, a3, a4, a5, a6, a7⟩ => ⟨v, a, σ', a1, a2, a3, a4, a5, a6, q _ _ a7⟩
theorem St.called {X : Fx} {m : Loc} {σ σ' : Hp} {s s' : Shared} (S : St X m σ s) (H : HRel X.G σ' s'.heap) (C : CStep σ σ' s.heap s'.heap) (hg : s'.gens = #[]) (ho : s'.os = X.G.os0) : St X m σ' s' ∧ Step X.L σ σ' s.heap s'.heap := by
  obtain ⟨mr, ⟨o, es, ep, x, y⟩, z⟩ := S.ns
  have hL : X.L ∉ σ'.map (·.1) := fun q => by
    rcases C.new _ q with h | h
    · exact S.noL h
    · rw [x] at h; cases h
  have P : Step X.L σ σ' s.heap s'.heap := ⟨fun b o hb _ e => C.keep b o hb e, C.new, hL⟩
  exact ⟨⟨S.ok, H, S.ns.keep (S.tups P) (fun o e => C.keep _ o S.noL e), hL, S.newL, hg, ho, S.frs' P⟩, P⟩
section
variable {X : Fx} {m : Loc} {σ : Hp} {EQ : EPost} {Q : AV → Hp → Prop} {QS : AF → Loc → Hp → Prop}
theorem Cl.fn {a : Addr} {l : List AV} (h : CallOk X.G X.n (.ref a) l σ Q) : Cl X m σ EQ (.ref a) l Q := by
  intro vf vs s S rf rs
  obtain rfl := rf.refE
  refine wpAny_call (codeAny_mono (h X.A S.ok.room s vs S.hr S.gens S.os S.two rs) ?_)
  rintro r s' ⟨v, x, σ', rfl, rv, H, C, hg, ho, q⟩
  have P := S.called H C hg ho
  exact doneH P rv q
/-- a def of the text -/
structure FnOk (G : Gl) (a : Addr) (fd : FuncData) (ps : List Str) (body : List Stmt) : Prop where
  look : ∃ oc od osl, G.K.lookup a = some ⟨oc, od, .func fd, osl⟩
  glob : fd.globals = mainGlobals
  blt : fd.builtins = builtinsNs
  clo : fd.closure = []
  kind : fd.scope.kind = .function
  co : fd.scope.isCoroutine = false
  gen : fd.scope.isGenerator = false
  cell : fd.scope.names.all (fun x => x.2 != .cell) = true
  code : codeIn G.K fd.code fd.qualname = true
  body : fd.body = .stmts body
  pre : (fd.scope.names.map (·.1)).take ps.length = ps
  nd : (fd.scope.names.map (·.1)).Nodup
  loc : ps.all (fun x => fd.scope.names.lookup x == some .local) = true
theorem lookup_key {x : Str} {v : Value} : ∀ {kvs : List (Str × Value)}, kvs.lookup x = some v → x ∈ kvs.map (·.1)
  | [], h => by simp at h
  | (k, w) :: r, h => by
    simp only [List.lookup] at h
    split at h
    · rename_i e; simp [eq_of_beq e]
    · simp only [List.map_cons, List.mem_cons]; exact .inr (lookup_key h)
theorem nodup_rev_lookup {x : Str} : ∀ {kvs : List (Str × Value)}, (kvs.map (·.1)).Nodup → kvs.reverse.lookup x = kvs.lookup x
  | [], _ => rfl
  | (k, v) :: r, h => by
    simp only [List.map_cons, List.nodup_cons] at h
    rw [List.reverse_cons, List.lookup_append, nodup_rev_lookup h.2]
    simp only [List.lookup]
    by_cases e : x = k
    · subst e
      have : r.lookup x = none := by
        cases q : r.lookup x with
        | none => rfl
        | some v' => exact absurd (lookup_key q) h.1
      rw [this]; simp
    · rw [beq_eq_false_iff_ne.mpr e]; simp
theorem zip_vals {h : Heap} {x : Str} : ∀ {ps rest : List Str} {l : List AV} {vs : List Value}, VRs h l vs → l.length = ps.length → (ps ++ rest).Nodup → OVR h (getN (ps ++ rest) (l.map some) x) ((ps.zip vs).lookup x)
  | [], rest, l, vs, r, hl, _ => by
    have : l = [] := by simpa using hl
    subst this
    obtain rfl := r.nilE
    show OVR h (getN rest [] x) none
    unfold getN
    cases rest.findIdx? (· == x) with
    | none => rfl
    | some i => simp; rfl
  | p :: ps, rest, [], vs, r, hl, _ => by simp at hl
  | p :: ps, rest, a :: l, vs, r, hl, nd => by
    obtain ⟨v, vs', rfl, h1, h2⟩ := r.consE
    simp only [List.cons_append, List.nodup_cons] at nd
    have ih := zip_vals (x := x) (rest := rest) h2 (by simpa using hl) nd.2
    simp only [List.zip_cons_cons, List.lookup]
    by_cases e : x = p
    · subst e
      simp only [beq_self_eq_true]
      have : getN (x :: ps ++ rest) (some a :: l.map some) x = some a := by
        unfold getN; simp [List.findIdx?_cons]
      rw [List.map_cons, this]; exact ⟨v, rfl, h1⟩
    · rw [beq_eq_false_iff_ne.mpr e]
      have : getN (p :: ps ++ rest) (some a :: l.map some) x = getN (ps ++ rest) (l.map some) x := by
        unfold getN
        simp only [List.cons_append, List.findIdx?_cons, beq_eq_false_iff_ne.mpr (Ne.symm e)]
        cases (ps ++ rest).findIdx? (· == x) with
        | none => simp
        | some i => simp
      rw [List.map_cons, this]; exact ih
noncomputable def retX (Q : AV → Hp → Prop) : AF → Loc → Hp → Prop
  | .ret v, _, σ => Q v σ
  | .next, _, σ => Q .none σ
  | _, _, _ => False
theorem CallOk.enterB {G : Gl} {n : Nat} {a : Addr} {fd : FuncData} {ps : List Str} {body : List Stmt} {args : List AV} {σ : Hp} {Q : AV → Hp → Prop} (F : FnOk G a fd ps body) (g : GOk G)
    (hb : ∀ h vals s, G.K.In s.heap → VRs h args vals → BindsTo s fd ⟨vals, []⟩ (ps.zip vals)) (hl : args.length = ps.length)
    (h : ∀ L A, Xs (.mk0 G fd L a A n none) (execs body (Fx.env (.mk0 G fd L a A n none))) (args.map some) σ NoE (retX Q)) : CallOk G (n + 1) (.ref a) args σ Q := by
  intro A hr s vals H hg ho h2 r
  obtain ⟨oc, od, osl, hlook⟩ := F.look
  have XK := g.kin.keeps H.base
  obtain ⟨p, lo, mg, mb, T⟩ := g.top
  refine codeAny_call_def (fd := fd) (body := body) (binds := ps.zip vals) (by have := hr.1; omega) (XK _ _ hlook) rfl (T.nolimit.keeps H.base) (codeRec_of XK F.code) F.body (hb s.heap vals s XK r) ?_ ?_ (fun h₀ hns hk => ?_) F.co F.gen F.kind
  · intro x hx
    have := List.all_eq_true.mp F.cell x hx
    simpa using this
  · intro y hy
    have := List.all_eq_true.mp F.loc y.1 (List.of_mem_zip hy).1
    simpa using this
  · have hrest : ps ++ (fd.scope.names.map (·.1)).drop ps.length = fd.scope.names.map (·.1) := by
      conv => lhs; lhs; rw [← F.pre]
      exact List.take_append_drop ..
    have nL : s.heap.objs.size ∉ σ.map (·.1) := fun q => by
      obtain ⟨o, hp, e⟩ := H.own_of q
      obtain ⟨ob, e⟩ : ∃ ob, s.heap.get? s.heap.objs.size = some ob := by
        cases o with
        | list l => obtain ⟨i, n, x, y⟩ := e; exact ⟨_, x⟩
        | dS l => obtain ⟨i, ⟨o, es, ep, x, y⟩, z⟩ := e; exact ⟨_, x⟩
        | dI l => obtain ⟨i, ⟨o, es, ep, x, y⟩, z⟩ := e; exact ⟨_, x⟩
        | dT l => obtain ⟨i, ⟨o, es, ep, x, y⟩, z⟩ := e; exact ⟨_, x⟩
        | inst C dx => exact ⟨_, e⟩
        | ns n v => obtain ⟨o, es, ep, x, y⟩ := e; exact ⟨_, x⟩
        | rng x y => obtain ⟨t, u, v, q⟩ := e; exact ⟨_, q⟩
        | exc C dx => obtain ⟨t, q⟩ := e; exact ⟨_, q⟩
        | held C dx => obtain ⟨o, vs, q, z⟩ := e; exact ⟨_, q⟩
        | cell v => obtain ⟨o, w, q, z⟩ := e; exact ⟨_, q⟩
      exact absurd (Heap.lt_size e) (Nat.lt_irrefl _)
    have kt := IsTup.keepAll hk
    have S : St (.mk0 G fd s.heap.objs.size a (A.deeper (callEnv fd s.heap.objs.size a)) n none) (args.map some) σ { s with heap := h₀, toks := s.toks + (ps.zip vals).length } := by
      refine ⟨⟨g, ?_, F.kind, F.glob, F.blt, h2, fun p hp => by cases hp⟩, ⟨fun p hp => (H.own p hp).keep kt (hk p.1), H.nd, fun b o e => hk b o (H.base b o e), H.apart, H.lo⟩, ⟨_, hns, fun x => ?_⟩, nL, ?_, hg, ho, fun p hp => by cases hp⟩
      · obtain ⟨r1, r2, r3⟩ := hr
        exact ⟨by show A.depth + 1 + n < recursionLimit; omega, by show A.units + 3 + 5 * n + 20 < cLine; omega, .inr (r3.resolve_left (Nat.succ_ne_zero n))⟩
      · show OVR h₀ (getN (fd.scope.names.map (·.1)) (args.map some) x) _
        have nd' : ((ps.zip vals).map (·.1)).Nodup := by
          have e : (ps.zip vals).map (·.1) = ps := by
            have := List.map_fst_zip (l₁ := ps) (l₂ := vals) (by rw [r.length, hl]; omega)
            simpa using this
          rw [e]
          have := F.nd
          rw [← hrest] at this
          exact (List.nodup_append.mp this).1
        rw [nodup_rev_lookup nd', ← hrest]
        exact zip_vals (r.keep kt) hl (by rw [hrest]; exact F.nd)
      · cases q : G.W0.get? s.heap.objs.size with
        | none => rfl
        | some o => exact absurd (Heap.lt_size (H.base _ _ q)) (Nat.lt_irrefl _)
    refine xs_then (h _ _ _ S) (fun f s₁ gg m₁ σ₁ r₁ S₁ P₁ h₁ => ?_) fun e s' he => ?_
    · have C : CStep σ σ₁ s.heap s₁.heap := ⟨fun b o hb e => P₁.keep b o hb (fun q => absurd (Heap.lt_size e) (by rw [q]; exact Nat.lt_irrefl _)) (hk b o e), fun b hb => (P₁.new b hb).imp id fun q => by
        cases e : s.heap.get? b with
        | none => rfl
        | some o =>
          have q : h₀.get? b = none := q
          rw [hk b o e] at q; cases q⟩
      cases gg with
      | ret v =>
        obtain ⟨w, rfl, rv⟩ := r₁
        exact ⟨w, v, σ₁, rfl, rv, S₁.hr, C, S₁.gens, S₁.os, h₁⟩
      | next =>
        obtain rfl := r₁
        exact ⟨.none, .none, σ₁, rfl, .noneI, S₁.hr, C, S₁.gens, S₁.os, h₁⟩
      | brk => exact h₁.elim
      | cont => exact h₁.elim
    · exact (show False from he).elim
end
open PySem PySem.W PySem.Calls PyProof.Rows PySem.SeqAt
/-- a list, of our own or of the start -/
noncomputable def LAt (G : Gl) (σ : Hp) (x : Addr) (l : List AV) : Prop := ∀ h, HRel G σ h → ∃ items, h.IsList x (List.toArray items) ∧ VRs h l items
theorem LAt.own {G : Gl} {σ : Hp} {x : Addr} {l : List AV} (hm : (x, .list l) ∈ σ) : LAt G σ x l := fun h H => by
  obtain ⟨is, ni, hi, z⟩ := H.own _ hm
  exact ⟨is, ⟨_, hi, rfl, _, rfl⟩, z⟩
theorem LAt.base {G : Gl} {σ : Hp} {x : Addr} {l : List AV} {items : List Value} (hl : G.W0.IsList x items.toArray) (z : VRs G.W0 l items) : LAt G σ x l := fun h H => by
  obtain ⟨o, ho, r⟩ := hl
  exact ⟨items, ⟨o, H.base _ _ ho, r⟩, z.keep (IsTup.keepAll H.base)⟩
section
variable {X : Fx} {m : Loc} {σ : Hp} {EQ : EPost} {Q : AV → Hp → Prop} {QS : AF → Loc → Hp → Prop}
theorem sliceAt {s : Shared} {value : Expr} {lo up : Option Expr} {p : Pos} {x : Addr} {l l' : List AV} {items : List Value} {vl vu : Value} {a b : Option Int} (S : St X m σ s) (hl : s.heap.IsList x items.toArray) (z : VRs s.heap l items) (hz : l.length ≤ 100000)
    (pl : IsPart vl a) (pu : IsPart vu b) (h' : VRs s.heap l' (slicePick items.toArray a b none).toList) (q : ∀ y, Q (.ref y) ((y, .list l') :: σ)) :
    wpAny X.M X.A (subscriptTail value (.Slice lo up none p) (.ref x) (.ref s.heap.objs.size)) (fun v s' => ∃ a σ', VR s'.heap a v ∧ St X m σ' s' ∧ Step X.L σ σ' s.heap s'.heap ∧ Q a σ') (EP X σ EQ s)
      { s with heap := s.heap.push { cls := .type "slice", data := .fields #[vl, vu, .none] } } := by
  have hl' : (s.heap.push { cls := .type "slice", data := .fields #[vl, vu, .none] }).IsList x items.toArray := hl.push _
  refine tail_any (s := { s with heap := s.heap.push { cls := .type "slice", data := .fields #[vl, vu, .none] } }) (Heap.IsList.typeIs (s := { s with heap := s.heap.push { cls := .type "slice", data := .fields #[vl, vu, .none] } }) hl') list_getitem_lookup
    (wpAny_getItem_list_slice hl' (Heap.IsSliceOf.new ..) pl pu .none (by simp) ?_ (by simp [z.length]; have := sizeLine_big; omega)) (ops := [.ref s.heap.objs.size, .ref x]) rfl
  have k : ∀ d o, s.heap.get? d = some o → ((s.heap.push { cls := .type "slice", data := .fields #[vl, vu, .none] }).push { cls := .type "list", data := .seq (slicePick items.toArray a b none) }).get? d = some o := fun d o e => Heap.get?_push_of_some _ (Heap.get?_push_of_some _ e)
  have P := S.alloc (tk := s.toks) (a := s.heap.objs.size + 1) (ao := .list l') k (Heap.get?_none_of_le (Nat.le_succ _)) (Nat.le_succ_of_le S.two) ⟨(slicePick items.toArray a b none).toList, 0, by
    have := Heap.get?_push_size (s.heap.push { cls := .type "slice", data := .fields #[vl, vu, .none] }) (o := { cls := .type "list", data := .seq (slicePick items.toArray a b none) }) rfl
    rw [Heap.size_push] at this
    rw [this, listO, Array.toArray_toList], h'.keep (IsTup.keepAll k)⟩
  refine ⟨.ref (s.heap.objs.size + 1), (s.heap.objs.size + 1, .list l') :: σ, ?_, P.1, P.2, q _⟩
  show VR _ (.ref (s.heap.objs.size + 1)) (.ref (s.heap.push { cls := .type "slice", data := .fields #[vl, vu, .none] }).objs.size)
  rw [Heap.size_push]; exact .refI
theorem Ev.sliceTo {value e : Expr} {p pos : Pos}
    (h : Ev X (eval value X.env) m σ EQ fun r σ₁ => Ev X (eval e X.env) m σ₁ EQ fun b σ₂ => ∃ x l k, r = .ref x ∧ b = .int k ∧ 0 ≤ k ∧ LAt X.G σ₂ x l ∧ l.length ≤ 100000 ∧ ∀ y, Q (.ref y) ((y, .list (l.take k.toNat)) :: σ₂)) :
    Ev X (eval (.Subscript value (.Slice none (some e) none p) pos) X.env) m σ EQ Q := by
  intro s S
  refine Subscript_ (ev_then (h s S) (fun v s₁ a σ₁ r₁ S₁ P₁ h₁ => ?_) fun _ _ e => e)
  refine wpAny_Slice ?_
  rw [evalPart_none, evalPart_some]
  refine wpAny_pure (ev_then (h₁ s₁ S₁) (fun w s₂ b σ₂ r₂ S₂ P₂ h₂ => wpAny_pure ?_) fun _ _ e => e.trans P₁)
  obtain ⟨x, l, k, rfl, rfl, h0, hl, hz, q⟩ := h₂
  obtain ⟨t, rfl⟩ := r₂.intE
  obtain rfl := r₁.refE
  obtain ⟨items, il, z⟩ := hl _ S₂.hr
  obtain ⟨n, rfl⟩ : ∃ n : Nat, k = n := ⟨k.toNat, by omega⟩
  refine wpAny_mono (sliceAt (Q := Q) S₂ il z hz .none (.int n t) (l' := l.take (n : Int).toNat) (by rw [slicePick_upto']; simpa using z.take n) q) (fun v s' ⟨a, σ', h1, h2, h3, h4⟩ => ⟨a, σ', h1, h2, (P₁.trans P₂).trans h3, h4⟩) fun e s' h => h.trans (P₁.trans P₂)
theorem Ev.sliceAll {value : Expr} {p pos : Pos}
    (h : Ev X (eval value X.env) m σ EQ fun r σ₁ => ∃ x l, r = .ref x ∧ LAt X.G σ₁ x l ∧ l.length ≤ 100000 ∧ ∀ y, Q (.ref y) ((y, .list l) :: σ₁)) :
    Ev X (eval (.Subscript value (.Slice none none none p) pos) X.env) m σ EQ Q := by
  intro s S
  refine Subscript_ (ev_then (h s S) (fun v s₁ a σ₁ r₁ S₁ P₁ h₁ => ?_) fun _ _ e => e)
  refine wpAny_Slice ?_
  rw [evalPart_none]
  refine wpAny_pure (wpAny_pure (wpAny_pure ?_))
  obtain ⟨x, l, rfl, hl, hz, q⟩ := h₁
  obtain rfl := r₁.refE
  obtain ⟨items, il, z⟩ := hl _ S₁.hr
  refine wpAny_mono (sliceAt (Q := Q) S₁ il z hz .none .none (l' := l) (by rw [slicePick_all]; simpa using z) q) (fun v s' ⟨a, σ', h1, h2, h3, h4⟩ => ⟨a, σ', h1, h2, P₁.trans h3, h4⟩) fun e s' h => h.trans P₁
/-! lists joined, repeated; an empty dict -/
theorem Op2.cat {x y : Addr} {l r : List AV} (hx : (x, .list l) ∈ σ) (hy : (y, .list r) ∈ σ) (hz : l.length + r.length ≤ 100000) (q : ∀ z, Q (.ref z) ((z, .list (l ++ r)) :: σ)) : Op2 X m σ EQ (binaryOp .Add) (.ref x) (.ref y) Q := by
  intro _ _ s S r₁ r₂
  obtain rfl := r₁.refE; obtain rfl := r₂.refE
  obtain ⟨is, ni, hi, z⟩ := S.hr.own _ hx
  obtain ⟨js, nj, hj, z'⟩ := S.hr.own _ hy
  refine P.add_list (items := is.toArray) (items2 := js.toArray) hi hj ?_ (by simp [z.length, z'.length]; have := sizeLine_big; omega)
  have k : ∀ d o, s.heap.get? d = some o → (s.heap.push { cls := .type "list", data := .seq (is.toArray ++ js.toArray) }).get? d = some o := fun d o e => Heap.get?_push_of_some _ e
  have P := S.alloc (tk := s.toks) (a := s.heap.objs.size) (ao := .list (l ++ r)) k (Heap.get?_none_of_le (Nat.le_refl _)) S.two ⟨is ++ js, 0, by
    rw [Heap.get?_push_size _ rfl, listO]; simp, (z.append z').keep (IsTup.keepAll k)⟩
  exact doneH P .refI (q _)
theorem VRs.rep {h : Heap} {a : AV} {v : Value} (r : VR h a v) : ∀ n, VRs h (List.replicate n a) (List.replicate n v)
  | 0 => .nil
  | n + 1 => .cons r (VRs.rep r n)
theorem foldl_rep (v : Value) : ∀ (n : Nat) (acc : Array Value), (List.foldl (fun x1 x2 => x1 ++ x2) acc (List.replicate n #[v])).toList = acc.toList ++ List.replicate n v
  | 0, acc => by simp
  | n + 1, acc => by
    rw [List.replicate_succ, List.foldl_cons, foldl_rep v n]
    simp [List.replicate_succ]
/-- [a] * k -/
theorem Op2.rep {x : Addr} {a : AV} {k : Int} (hx : (x, .list [a]) ∈ σ) (h0 : 0 ≤ k) (hk : k ≤ 100000) (q : ∀ z, Q (.ref z) ((z, .list (List.replicate k.toNat a)) :: σ)) : Op2 X m σ EQ (binaryOp .Mult) (.ref x) (.int k) Q := by
  intro _ _ s S r₁ r₂
  obtain rfl := r₁.refE
  obtain ⟨u, rfl⟩ := r₂.intE
  obtain ⟨is, ni, hi, z⟩ := S.hr.own _ hx
  obtain ⟨v, r, rfl, rv, rn⟩ := z.consE
  obtain rfl := rn.nilE
  have hsz : sizeLine = 2 ^ 24 := rfl
  refine wpAny_binaryOp_repeat_ref (T := "list") (U := "int") (by decide) ⟨_, hi, rfl⟩ (fun s' => typeIs_int s' k u) noFill_list_mul F.fills_int_mul F.slot_int_rmul repeat_list F.slot_int_index.lookup
    (call_meets F.slot_int_rmul (typeIs_int s k u) F.entry_int_rmul (F.args_int_rmul_2 _ _) (int___rmul___int_list k u x #[v] ni)
      ⟨hi, rfl, ⟨_, hi, rfl⟩, call_meets F.slot_list_mul ⟨_, hi, rfl⟩ F.entry_list_mul (F.args_list_mul_2 _ _)
        (AutoListH.list___mul___list_int_3 x #[v] ni k u (by simp [Builtin.List.listFitsIndex]; omega) (by simp; omega) (by simp [Builtin.List.listTooLong, sizeLine]; omega))
        ⟨hi, ?_⟩⟩)
  have e : (List.foldl (fun x1 x2 => x1 ++ x2) #[] (List.replicate (if (#[v] : Array Value).isEmpty = true then 0 else k.toNat) #[v])) = (List.replicate k.toNat v).toArray := by
    apply Array.toList_inj.mp
    rw [foldl_rep]; simp
  rw [e]
  have kp : ∀ d o, s.heap.get? d = some o → (s.heap.push { cls := .type "list", data := .seq (List.replicate k.toNat v).toArray }).get? d = some o := fun d o e => Heap.get?_push_of_some _ e
  have P := S.alloc (tk := s.toks) (a := s.heap.objs.size) (ao := .list (List.replicate k.toNat a)) kp (Heap.get?_none_of_le (Nat.le_refl _)) S.two ⟨List.replicate k.toNat v, 0, by
    rw [Heap.get?_push_size _ rfl, listO], (VRs.rep rv _).keep (IsTup.keepAll kp)⟩
  exact doneH P .refI (q _)
theorem Ev.dict0 {κ : Type} [DecidableEq κ] [Keyed κ] {pos : Pos} (hn : ∀ (G : Gl) (h : Heap), ORel G (h.push { cls := .type "dict", data := .dict #[] }) h.objs.size (Keyed.ao (κ := κ) [])) (q : ∀ z, Q (.ref z) ((z, Keyed.ao (κ := κ) []) :: σ)) : Ev X (eval (.Dict [] [] pos) X.env) m σ EQ Q := by
  intro s S
  refine wpAny_Dict_empty ?_
  have P := S.alloc (tk := s.toks) (a := s.heap.objs.size) (ao := Keyed.ao (κ := κ) []) (h' := s.heap.push { cls := .type "dict", data := .dict #[] }) (fun d o e => Heap.get?_push_of_some _ e) (Heap.get?_none_of_le (Nat.le_refl _)) S.two (hn _ _)
  exact doneH P .refI (q _)
theorem Ev.dictS {pos : Pos} (q : ∀ z, Q (.ref z) ((z, .dS []) :: σ)) : Ev X (eval (.Dict [] [] pos) X.env) m σ EQ Q := Ev.dict0 (κ := Str) (fun G h => ⟨[], Heap.DictOf.new h, .nil⟩) q
theorem Ev.dictI {pos : Pos} (q : ∀ z, Q (.ref z) ((z, .dI []) :: σ)) : Ev X (eval (.Dict [] [] pos) X.env) m σ EQ Q := Ev.dict0 (κ := Int) (fun G h => ⟨[], Heap.DictOf.new h, .nil⟩) q
theorem Ev.dictT {pos : Pos} (q : ∀ z, Q (.ref z) ((z, .dT []) :: σ)) : Ev X (eval (.Dict [] [] pos) X.env) m σ EQ Q := Ev.dict0 (κ := List Int) (fun G h => ⟨[], Heap.DictOfH.new h, .nil⟩) q
/-! and, or as values: of bools -/
noncomputable def andV (X : Fx) (m : Loc) (EQ : EPost) (rest : Sem Value) (Q : AV → Hp → Prop) : AV → Hp → Prop
  | .bool true, σ => Ev X rest m σ EQ Q
  | .bool false, σ => Q (.bool false) σ
  | _, _ => False
noncomputable def orV (X : Fx) (m : Loc) (EQ : EPost) (rest : Sem Value) (Q : AV → Hp → Prop) : AV → Hp → Prop
  | .bool false, σ => Ev X rest m σ EQ Q
  | .bool true, σ => Q (.bool true) σ
  | _, _ => False
theorem Ev.bone {op e pos} (h : Ev X (eval e X.env) m σ EQ Q) : Ev X (eval (.BoolOp op [e] pos) X.env) m σ EQ Q := fun s S => BoolOp_one (h s S)
theorem Ev.and {e₁ e₂ rest pos} (h : Ev X (eval e₁ X.env) m σ EQ (andV X m EQ (eval (.BoolOp .And (e₂ :: rest) pos) X.env) Q)) : Ev X (eval (.BoolOp .And (e₁ :: e₂ :: rest) pos) X.env) m σ EQ Q := by
  intro s S
  refine BoolOp_and (ev_then (h s S) (fun v s₁ a σ₁ r₁ S₁ P₁ h₁ => ?_) fun _ _ e => e)
  unfold andV at h₁
  split at h₁
  · obtain rfl := r₁.boolE
    exact wpAny_truthy_bool (ev_from P₁ (h₁ s₁ S₁))
  · obtain rfl := r₁.boolE
    exact wpAny_truthy_bool ⟨_, _, r₁, S₁, P₁, h₁⟩
  · exact h₁.elim
theorem Ev.or {e₁ e₂ rest pos} (h : Ev X (eval e₁ X.env) m σ EQ (orV X m EQ (eval (.BoolOp .Or (e₂ :: rest) pos) X.env) Q)) : Ev X (eval (.BoolOp .Or (e₁ :: e₂ :: rest) pos) X.env) m σ EQ Q := by
  intro s S
  refine BoolOp_or (ev_then (h s S) (fun v s₁ a σ₁ r₁ S₁ P₁ h₁ => ?_) fun _ _ e => e)
  unfold orV at h₁
  split at h₁
  · obtain rfl := r₁.boolE
    exact wpAny_truthy_bool (ev_from P₁ (h₁ s₁ S₁))
  · obtain rfl := r₁.boolE
    exact wpAny_truthy_bool ⟨_, _, r₁, S₁, P₁, h₁⟩
  · exact h₁.elim
theorem Ev.neg {x pos} (h : Ev X (eval x X.env) m σ EQ fun a σ₁ => ∃ i, a = .int i ∧ Q (.int (-i)) σ₁) : Ev X (eval (.UnaryOp .USub x pos) X.env) m σ EQ Q := by
  intro s S
  refine UnaryOp_ (ev_then (h s S) (fun v s₁ a σ₁ r₁ S₁ P₁ h₁ => ?_) fun _ _ e => e)
  obtain ⟨i, rfl, q⟩ := h₁
  obtain ⟨t, rfl⟩ := r₁.intE
  exact PyProof.Rows.neg_int ⟨_, _, .intI, S₁.toks _, P₁, q⟩
end
/-! unpacking -/
/-- names one after the other -/
inductive UnpN (X : Fx) : List Expr → List AV → Loc → Loc → Prop
  | nil {m} : UnpN X [] [] m m
  | cons {x p i a es l m m' m''} : Lc X.fd x i → SetAt m i a m' → UnpN X es l m' m'' → UnpN X (.Name x p :: es) (a :: l) m m''
section
variable {X : Fx} {m : Loc} {σ : Hp} {EQ : EPost} {Q : AV → Hp → Prop} {QS : AF → Loc → Hp → Prop}
theorem UnpN.len {es : List Expr} {l : List AV} {m m' : Loc} (u : UnpN X es l m m') : es.length = l.length := by
  induction u with
  | nil => rfl
  | cons _ _ _ ih => simp [ih]
theorem UnpN.noStar {env : Env} {es : List Expr} {l : List AV} {m m' : Loc} (u : UnpN X es l m m') : assignEach es env = es.map fun t => (false, assign t env) := by
  induction u with
  | nil => rfl
  | cons _ _ _ ih => show (false, _) :: assignEach _ env = _; rw [ih]; rfl
theorem assign_in_order {es : List Expr} {l : List AV} {m' : Loc} : ∀ {m : Loc} {s : Shared} {vs : List Value} {R : Unit → Shared → Prop} {E : Value → Shared → Prop}, UnpN X es l m m' → St X m σ s → VRs s.heap l vs →
    (∀ s', St X m' σ s' → Step X.L σ σ s.heap s'.heap → R () s') → wpAny X.M X.A (assignInOrder (es.map fun t => assign t X.env) vs) R E s := by
  intro m s vs R E u
  induction u generalizing s vs with
  | nil => intro S r q; obtain rfl := r.nilE; exact wpAny_pure (q s S (.refl S.noL _))
  | @cons x p i a es l m m₁ m₂ lc g u ih =>
    intro S r q
    obtain ⟨v, vs', rfl, h1, h2⟩ := r.consE
    show wpAny _ _ (do holding vs' (assign (.Name x p) X.env v); assignInOrder (es.map fun t => assign t X.env) vs') _ _ _
    refine wpAny_bind (wpAny_holding (PyProof.Rows.assign_Name (store_local S lc g h1 fun s' S' P' => ?_)))
    exact ih S' (S.vrs P' h2) fun s'' S'' P'' => q s'' S'' (P'.trans P'')
noncomputable def notTup : Expr → Bool
  | .Tuple .. => false
  | _ => true
theorem swapped_none {elts : List Expr} {k tpos} {value : Expr} {env : Env} (h : notTup value = true) : swappedStores [.Tuple elts k tpos] value env = pure none := by
  cases value <;> first | rfl | exact (Bool.false_ne_true h).elim
theorem Xs.unpack {elts : List Expr} {k : Nat} {tpos pos : Pos} {value : Expr} (hc : noComp value = true) (ht : notTup value = true)
    (h : Ev X (eval value X.env) m σ EQ fun a σ₁ => ∃ l m', a = .tup l ∧ UnpN X elts l m m' ∧ QS .next m' σ₁) (hX : X.n ≠ 0 := by omega) : Xs X (exec (.Assign [.Tuple elts k tpos] value pos) X.env) m σ EQ QS := by
  intro s S
  refine PyProof.Rows.Assign_Tuple (ev_then (h s S) (fun v s₁ a σ₁ r₁ S₁ P₁ h₁ => ?_) fun _ _ e => e) (by show swapsWith value (some (.Tuple elts k tpos)) pos.line X.env = _; exact swaps_no hc) (swapped_none ht)
  obtain ⟨l, m', rfl, u, q⟩ := h₁
  obtain ⟨t, items, rfl, tt, z⟩ := r₁.tupE
  refine assign_Tuple_tuple (x1 := k) (S₁.handled hX) tt (by rw [u.noStar]; simp [u.len, z.length]) (by rw [u.noStar]; simp) fun h' he => ?_
  have keep : ∀ b o, s₁.heap.get? b = some o → h'.get? b = some o := fun b o e => he b o (fun q => absurd (Heap.lt_size e) (by rw [q]; exact Nat.lt_irrefl _)) e
  have Pg := S₁.grow (tk := s₁.toks) keep
  rw [u.noStar, List.map_map]
  exact assign_in_order u Pg.1 (z.keep (IsTup.keepAll keep)) fun s' S' P' => ⟨.next, m', σ₁, rfl, S', (P₁.trans Pg.2).trans P', q⟩
/-! x -= e, x //= e -/
theorem Xs.aug {x : Str} {i : Nat} {a : AV} {op : Operator} {value : Expr} {pos' pos : Pos} (l : Lc X.fd x i) (g : GetAt m i a)
    (h : Ev X (eval value X.env) m σ EQ fun b σ₁ => Op2 X m σ₁ EQ (inplaceOp op) a b fun c σ₂ => ∃ m', SetAt m i c m' ∧ QS .next m' σ₂) : Xs X (exec (.AugAssign (.Name x pos') op value pos) X.env) m σ EQ QS := by
  intro s S
  obtain ⟨mr, hn, hm⟩ := S.ns
  have hx := hm x
  rw [show getN X.names m x = some a from getN_get l.ix g] at hx
  obtain ⟨v, hv, r⟩ := hx
  refine wpAny_AugAssign_Name (wpAny_loadName_local S.ok.kind l.kind hn hv ?_)
  refine ev_then (h s S) (fun w s₁ b σ₁ r₁ S₁ P₁ h₁ => ?_) fun _ _ e => e
  refine ev_then (h₁ v w s₁ S₁ (S.vr P₁ r) r₁) (fun z s₂ c σ₂ r₂ S₂ P₂ h₂ => ?_) fun _ _ e => e.trans P₁
  obtain ⟨m', gs, q⟩ := h₂
  exact store_local S₂ l gs r₂ fun s' S' P' => ⟨.next, m', σ₂, rfl, S', (P₁.trans P₂).trans P', q⟩
theorem Op2.isub {a b : Int} (q : Q (.int (a - b)) σ) : Op2 X m σ EQ (inplaceOp .Sub) (.int a) (.int b) Q := by
  intro _ _ s S r₁ r₂; obtain ⟨t, rfl⟩ := r₁.intE; obtain ⟨u, rfl⟩ := r₂.intE; exact PyProof.Rows.isub_int (doneT S .intI q)
theorem Op2.ifdiv {a b : Int} (hb : b ≠ 0) (hp : Builtin.divisionGoesByPylong a b = false) (q : Q (.int (a.fdiv b)) σ) : Op2 X m σ EQ (inplaceOp .FloorDiv) (.int a) (.int b) Q := by
  intro _ _ s S r₁ r₂; obtain ⟨t, rfl⟩ := r₁.intE; obtain ⟨u, rfl⟩ := r₂.intE; exact PyProof.Rows.ifloordiv_int hb (doneT S .intI q) (.inl hp)
/-- min of a list of ints -/
theorem ints_are {h : Heap} : ∀ {ns : List Int} {vs : List Value}, VRs h (ns.map AV.int) vs → IntsAre vs ns
  | [], _, e => by obtain rfl := e.nilE; exact .nil
  | n :: ns, _, e => by
    obtain ⟨v, r, rfl, h1, h2⟩ := e.consE
    obtain ⟨t, rfl⟩ := h1.intE
    exact .cons n t (ints_are h2)
theorem Cl.min {x : Addr} {ns : List Int} (hm : (x, .list (ns.map .int)) ∈ σ) (hne : 0 < ns.length) (q : ∀ M, M ∈ ns → (∀ a ∈ ns, M ≤ a) → Q (.int M) σ) (hX : X.n ≠ 0 := by omega) : Cl X m σ EQ (.oth (.builtin "min")) [.ref x] Q := .one fun v s S r => by
  obtain rfl := r.refE
  obtain ⟨is, ni, hi, z⟩ := S.hr.own _ hm
  have hi2 := ints_are z
  obtain ⟨xs, e⟩ := hi2.allInts.items
  have hns : ns = xs.toList.map (·.1) := by
    rw [← hi2.numsOf, ← nums_intItems, ← e]
  have hsz : 0 < xs.size := by
    have h3 := hne; rw [hns, List.length_map, Array.length_toList] at h3; exact h3
  have hl : s.heap.IsList x is.toArray := ⟨_, hi, rfl, _, rfl⟩
  rw [e] at hl
  refine min_intList (S.handled hX) hl hsz fun v h' tk hv hk => ?_
  obtain ⟨t, rfl⟩ := intItems_at hv
  obtain ⟨h1, h2⟩ := argBest_lt (numAt xs) (xs.size - 1)
  have P := S.grow (tk := tk) hk
  refine doneH P .intI (q _ ?_ fun a ha => ?_)
  · rw [hns, numAt_eq]; exact getD_mem (by rw [List.length_map, Array.length_toList]; omega)
  · rw [hns] at ha
    obtain ⟨j, hj, rfl⟩ := mem_getD ha
    rw [List.length_map, Array.length_toList] at hj
    rw [← numAt_eq]; exact h2 j (by omega)
end
open PySem PySem.W PySem.Calls PyProof.Rows PySem.SeqAt
theorem no_EP {X : Fx} {σ : Hp} {s : Shared} {e : Value} {s' : Shared} {P : Prop} (h : EP X σ NoE s e s') : P := by
  exact (show False from h).elim
section
variable {X : Fx} {m : Loc} {σ : Hp} {EQ : EPost} {Q : AV → Hp → Prop} {QS : AF → Loc → Hp → Prop}
/-- something changes that is nobody's here -/
theorem St.alter {s : Shared} (S : St X m σ s) {it : Addr} {h' : Heap} {tk : Nat} (k : ∀ b o, b ≠ it → s.heap.get? b = some o → h'.get? b = some o) (n1 : it ∉ σ.map (·.1)) (n2 : it ≠ X.L) (n3 : X.G.W0.get? it = none)
    (n4 : ∀ p, X.R = some p → it ∈ p.2.1 ∨ p.2.2.get? it = none) (nt : ∀ items, ¬ IsTup s.heap it items) : St X m σ { s with heap := h', toks := tk } := by
  have kt := IsTup.keepBut k nt
  refine ⟨S.ok, ⟨fun p hp => (S.hr.own p hp).keep kt (fun x => k _ x fun e => n1 (e ▸ List.mem_map_of_mem hp)), S.hr.nd, fun b o e => k b o (fun q => ?_) (S.hr.base b o e), S.hr.apart, S.hr.lo⟩, S.ns.keep kt (fun x => k _ x n2.symm), S.noL, S.newL, S.gens, S.os, fun p hp => (S.frs p hp).alter k (n4 p hp)⟩
  rw [q, n3] at e; cases e
/-- what a turn may end with -/
noncomputable def turnX (I : Nat → Loc → Hp → Prop) (i : Nat) (QS : AF → Loc → Hp → Prop) : AF → Loc → Hp → Prop
  | .next, m, σ => I (i + 1) m σ
  | .cont, m, σ => I (i + 1) m σ
  | .brk, m, σ => QS .next m σ
  | .ret a, m, σ => QS (.ret a) m σ
theorem for_core {x : Str} {j : Nat} {px : Pos} {body : List Stmt} {s₀ s : Shared} {it : Addr} {N : Nat} {vals : Nat → AV} {IS : Nat → Heap → Prop} {I : Nat → Loc → Hp → Prop} {E : Value → Shared → Prop}
    (S : St X m σ s) (P₀ : Step X.L σ σ s₀.heap s.heap) (lc : Lc X.fd x j) (hnew : s₀.heap.get? it = none) (n1 : it ∉ σ.map (·.1)) (n2 : it ≠ X.L) (n3 : X.G.W0.get? it = none) (n4 : ∀ p, X.R = some p → it ∈ p.2.1 ∨ p.2.2.get? it = none)
    (hkeep : ∀ i h h', IS i h → (∀ o, h.get? it = some o → h'.get? it = some o) → (∀ a items, IsTup h a items → IsTup h' a items) → IS i h') (hex : ∀ i h, IS i h → ∃ o, h.get? it = some o ∧ o.cls ≠ .type "tuple")
    (hnext : ∀ i m σ s, i < N → St X m σ s → IS i s.heap → I i m σ → ∀ R E, (∀ v h' tk, IS (i + 1) h' → Heap.SameBut it s.heap h' → VR s.heap (vals i) v → R (some v) { s with heap := h', toks := tk }) → wpAny X.M X.A (pyNext (.ref it)) R E s)
    (hend : ∀ m σ s, St X m σ s → IS N s.heap → I N m σ → ∀ R E, (∀ h', Heap.ExtBut it s.heap h' → R none { s with heap := h' }) → wpAny X.M X.A (pyNext (.ref it)) R E s)
    (hturn : ∀ i m σ, i < N → I i m σ → ∃ m₁, SetAt m j (vals i) m₁ ∧ Xs X (execs body X.env) m₁ σ NoE (turnX I i QS))
    (hfin : ∀ m σ, I N m σ → QS .next m σ) (h0 : I 0 m σ) (hi0 : IS 0 s.heap)
    (R : Result → Shared → Prop) (hR : ∀ g f m' σ' s', FR s'.heap g f → St X m' σ' s' → Step X.L σ σ' s₀.heap s'.heap → QS g m' σ' → R (.ok f) s') :
    codeAny X.M X.A (.forLoop (.Name x px) (.ref it) body [] X.env) R s := by
  refine codeAny_forLoop (prog := X.G.prog) (w := X.G.w) (fun n s' => ∃ i m' σ', n = N - i ∧ i ≤ N ∧ St X m' σ' s' ∧ Step X.L σ σ' s₀.heap s'.heap ∧ it ∉ σ'.map (·.1) ∧ IS i s'.heap ∧ I i m' σ') ?_ (N - 0) ⟨0, m, σ, rfl, Nat.zero_le _, S, P₀, n1, hi0, h0⟩
  rintro n s' ⟨i, m', σ', rfl, hi, S', P', n1', hI, hJ⟩
  obtain ⟨oi, hoi, hcl⟩ := hex i _ hI
  have nt : ∀ items, ¬ IsTup s'.heap it items := by
    rintro items ⟨o, ho, hc, _⟩
    rw [hoi] at ho; cases ho; exact hcl hc
  by_cases hlt : i < N
  · refine hnext i m' σ' s' hlt S' hI hJ _ _ fun v h' tk hI' hs hv => ?_
    have k : ∀ b o, b ≠ it → s'.heap.get? b = some o → h'.get? b = some o := fun b o hb e => (hs.2 b hb).trans e
    have S₁ := S'.alter (tk := tk) k n1' n2 n3 n4 nt
    have hv' := hv.keep (IsTup.keepBut k nt)
    obtain ⟨m₁, gs, hb⟩ := hturn i m' σ' hlt hJ
    refine PyProof.Rows.assign_Name (store_local S₁ lc gs hv' fun s₂ S₂ P₂ => ?_)
    have P₁ : Step X.L σ σ' s₀.heap h' := ⟨fun b o hb hL e => k b o (fun q => by rw [q, hnew] at e; cases e) (P'.keep b o hb hL e), P'.new, P'.noL⟩
    refine wpAny_mono (hb s₂ S₂) (fun f s₃ ⟨g, m₃, σ₃, r₃, S₃, P₃, q⟩ => ?_) fun e s₃ he => no_EP he
    have P₄ := (P₁.trans P₂).trans P₃
    have hit2 : s₂.heap.get? it = some _ := P₂.keep it _ n1' n2 (hex _ _ hI').choose_spec.1
    have again : ∀ m₃ σ₃, St X m₃ σ₃ s₃ → Step X.L σ' σ₃ s₂.heap s₃.heap → Step X.L σ σ₃ s₀.heap s₃.heap → I (i + 1) m₃ σ₃ → ∃ k, k < N - i ∧ ∃ i m' σ', k = N - i ∧ i ≤ N ∧ St X m' σ' s₃ ∧ Step X.L σ σ' s₀.heap s₃.heap ∧ it ∉ σ'.map (·.1) ∧ IS i s₃.heap ∧ I i m' σ' := by
      intro m₃ σ₃ S₃ P₃ P₄ q
      refine ⟨N - (i + 1), Nat.sub_lt_sub_left hlt (Nat.lt_succ_self i), i + 1, m₃, σ₃, rfl, by omega, S₃, P₄, fun h => ?_, ?_, q⟩
      · rcases P₃.new _ h with h | h
        · exact n1' h
        · rw [hit2] at h; cases h
      · exact hkeep _ _ _ hI' (fun o e => P₃.keep it o n1' n2 (P₂.keep it o n1' n2 e)) fun a items t => S₂.tups P₃ a items (S₁.tups P₂ a items t)
    cases g with
    | next => obtain rfl := r₃; exact again m₃ σ₃ S₃ P₃ P₄ q
    | cont => obtain rfl := r₃; exact again m₃ σ₃ S₃ P₃ P₄ q
    | brk => obtain rfl := r₃; exact hR .next .next m₃ σ₃ s₃ rfl S₃ P₄ q
    | ret a => obtain ⟨w, rfl, rw⟩ := r₃; exact hR (.ret a) (.ret w) m₃ σ₃ s₃ ⟨w, rfl, rw⟩ S₃ P₄ q
  · have : i = N := by omega
    subst this
    refine hend m' σ' s' S' hI hJ _ _ fun h' he => wpAny_execs_nil ?_
    have k : ∀ b o, b ≠ it → s'.heap.get? b = some o → h'.get? b = some o := fun b o hb e => he b o hb e
    have S₁ := S'.alter (tk := s'.toks) k n1' n2 n3 n4 nt
    have P₁ : Step X.L σ σ' s₀.heap h' := ⟨fun b o hb hL e => k b o (fun q => by rw [q, hnew] at e; cases e) (P'.keep b o hb hL e), P'.new, P'.noL⟩
    exact hR .next .next m' σ' _ rfl S₁ P₁ (hfin _ _ hJ)
/-- what is gone through -/
theorem rngSz (a b : Int) : Builtin.Range.rangeSize a b 1 = max 0 (b - a) := by unfold Builtin.Range.rangeSize; simp; split <;> omega
theorem rngSm {a b : Int} (ha1 : -(2 ^ 60) ≤ a) (ha2 : a ≤ 2 ^ 60) (hb1 : -(2 ^ 60) ≤ b) (hb2 : b ≤ 2 ^ 60) : Builtin.Range.small a b 1 = true := by
  unfold Builtin.Range.small Builtin.Range.rangeFitsLong; rw [rngSz]; simp; omega
theorem rngNat (a b : Int) : Builtin.Range.rangeSize a b 1 = ((b - a).toNat : Int) - ((0 : Nat) : Int) := by rw [rngSz]; omega
theorem Xs.forRange {x : Str} {j : Nat} {px pos : Pos} {iter : Expr} {body : List Stmt} (lc : Lc X.fd x j) (hs : ∀ x, foldedSetIterable iter X.env x = pure x)
    (h : Ev X (eval iter X.env) m σ EQ fun r σ₁ => ∃ y a b σ₂, r = .ref y ∧ σ₁ = (y, .rng a b) :: σ₂ ∧ -(2 ^ 60) ≤ a ∧ a ≤ 2 ^ 60 ∧ -(2 ^ 60) ≤ b ∧ b ≤ 2 ^ 60 ∧ ∃ I : Nat → Loc → Hp → Prop, I 0 m σ₂ ∧
      (∀ (i : Nat) m σ, (i : Int) < b - a → I i m σ → ∃ m₁, SetAt m j (.int (a + i)) m₁ ∧ Xs X (execs body X.env) m₁ σ NoE (turnX I i QS)) ∧ (∀ m σ, I (b - a).toNat m σ → QS .next m σ)) (hX : X.n ≠ 0 := by omega) :
    Xs X (exec (.For (.Name x px) iter body [] pos) X.env) m σ EQ QS := by
  intro s S
  refine wpAny_For (ev_then (h s S) (fun v s₁ r σ₁ r₁ S₁ P₁ h₁ => ?_) fun _ _ e => e) hs
  obtain ⟨y, a, b, σ₂, rfl, rfl, ha1, ha2, hb1, hb2, I, h0, hturn, hfin⟩ := h₁
  obtain rfl := r₁.refE
  obtain ⟨t, u, w, hr⟩ := S₁.hr.own (y, .rng a b) (.head _)
  have hr : IsRange s₁.heap y a b 1 t u w := hr
  refine wpAny_pyIter_range hr ?_ ?_
  · exact rngSm ha1 ha2 hb1 hb2
  have le : Le σ₂ ((y, .rng a b) :: σ₂) := ⟨[(y, .rng a b)], by simpa using (List.perm_append_singleton (y, AO.rng a b) σ₂).symm⟩
  have S₂ := S₁.le le
  have Pg := S₂.push { cls := .type "range_iterator", data := .fields #[rawInt a, rawInt (Builtin.Range.rangeSize a b 1), rawInt 1] } (tk := s₁.toks)
  have fresh : s₁.heap.get? s₁.heap.objs.size = none := Heap.get?_none_of_le (Nat.le_refl _)
  refine for_core (s₀ := s₁) (N := (b - a).toNat) (vals := fun i => .int (a + i)) (IS := fun i h => IsRangeIter h s₁.heap.objs.size (a + i) ((b - a).toNat - i) 1) (I := I) (E := fun _ _ => True) Pg.1 Pg.2 lc fresh ?_ ?_ ?_ (fun p hp => (S₁.frs p hp).fresh fresh) ?_ ?_ ?_ ?_ ?_ hfin h0 ?_ _ ?_
  · intro q
    obtain ⟨⟨b', o⟩, hp, e⟩ := List.mem_map.mp q
    obtain ⟨ob, eo⟩ := S₂.lt hp
    have e : b' = s₁.heap.objs.size := e
    rw [e, fresh] at eo; cases eo
  · intro e; have := S₂.Llt; rw [← e] at this; exact absurd this (Nat.lt_irrefl _)
  · cases q : X.G.W0.get? s₁.heap.objs.size with
    | none => rfl
    | some o => have := S₂.hr.base _ _ q; rw [fresh] at this; cases this
  · intro i h h' hI hk _; exact hk _ hI
  · intro i h hI; exact ⟨_, hI, by simp⟩
  · intro i m' σ' s' hi S' hI hJ R E hR
    refine wpAny_pyNext_range_item hI (by omega) fun h' hI' hs' => hR _ _ _ ?_ hs' .intI
    have e1 : a + (i : Int) + 1 = a + ((i + 1 : Nat) : Int) := by omega
    have e2 : ((b - a).toNat : Int) - i - 1 = (b - a).toNat - ((i + 1 : Nat) : Int) := by omega
    rw [e1, e2] at hI'; exact hI'
  · intro m' σ' s' S' hI hJ R E hR
    exact wpAny_pyNext_range_end (S'.handled hX) hI (by omega) hR
  · intro i m' σ' hi hJ; exact hturn i m' σ' (by omega) hJ
  · show IsRangeIter _ _ _ _ _
    have e := rngNat a b
    have e0 : a + ((0 : Nat) : Int) = a := by omega
    rw [← e, e0]
    exact Heap.get?_push_size _ rfl
  · intro g f m' σ' s' r' S' P' q
    exact ⟨g, m', σ', r', S', ((P₁.le le)).trans P', q⟩
theorem fresh_not {s : Shared} (S : St X m σ s) : s.heap.objs.size ∉ σ.map (·.1) ∧ s.heap.objs.size ≠ X.L ∧ X.G.W0.get? s.heap.objs.size = none ∧ ∀ p, X.R = some p → s.heap.objs.size ∈ p.2.1 ∨ p.2.2.get? s.heap.objs.size = none := by
  have fresh : s.heap.get? s.heap.objs.size = none := Heap.get?_none_of_le (Nat.le_refl _)
  refine ⟨fun q => ?_, fun e => ?_, ?_, fun p hp => (S.frs p hp).fresh fresh⟩
  · obtain ⟨⟨b', o⟩, hp, e⟩ := List.mem_map.mp q
    obtain ⟨ob, eo⟩ := S.lt hp
    have e : b' = s.heap.objs.size := e
    rw [e, fresh] at eo; cases eo
  · have := S.Llt; rw [← e] at this; exact absurd this (Nat.lt_irrefl _)
  · cases q : X.G.W0.get? s.heap.objs.size with
    | none => rfl
    | some o => have := S.hr.base _ _ q; rw [fresh] at this; cases this
theorem Xs.forList {x : Str} {j : Nat} {px pos : Pos} {iter : Expr} {body : List Stmt} (lc : Lc X.fd x j) (hs : ∀ x, foldedSetIterable iter X.env x = pure x)
    (h : Ev X (eval iter X.env) m σ EQ fun r σ₁ => ∃ y l, r = .ref y ∧ LAt X.G σ₁ y l ∧ ∃ I : Nat → Loc → Hp → Prop, I 0 m σ₁ ∧ (∀ i m σ, I i m σ → LAt X.G σ y l) ∧
      (∀ (i : Nat) a m σ, l[i]? = some a → I i m σ → ∃ m₁, SetAt m j a m₁ ∧ Xs X (execs body X.env) m₁ σ NoE (turnX I i QS)) ∧ (∀ m σ, I l.length m σ → QS .next m σ)) (hX : X.n ≠ 0 := by omega) :
    Xs X (exec (.For (.Name x px) iter body [] pos) X.env) m σ EQ QS := by
  intro s S
  refine wpAny_For (ev_then (h s S) (fun v s₁ r σ₁ r₁ S₁ P₁ h₁ => ?_) fun _ _ e => e) hs
  obtain ⟨y, l, rfl, hl, I, h0, hL, hturn, hfin⟩ := h₁
  obtain rfl := r₁.refE
  obtain ⟨items, il, z⟩ := hl _ S₁.hr
  refine wpAny_pyIter_list il ?_
  have Pg := S₁.push { cls := .type "list_iterator", data := .fields #[.ref y, .int 0 0] } (tk := s₁.toks)
  obtain ⟨f1, f2, f3, f4⟩ := fresh_not S₁
  refine for_core (s₀ := s₁) (N := l.length) (vals := fun i => l.getD i .none) (IS := fun i h => h.IsListIter s₁.heap.objs.size y i) (I := I) (E := fun _ _ => True) Pg.1 Pg.2 lc (Heap.get?_none_of_le (Nat.le_refl _)) f1 f2 f3 f4 ?_ ?_ ?_ ?_ ?_ hfin h0 ?_ _ ?_
  · rintro i h h' ⟨o, ho, r⟩ hk _; exact ⟨o, hk _ ho, r⟩
  · rintro i h ⟨o, ho, hc, _⟩; exact ⟨o, ho, by rw [hc]; simp⟩
  · intro i m' σ' s' hi S' hI hJ R E hR
    obtain ⟨it', il', z'⟩ := hL i m' σ' hJ _ S'.hr
    obtain ⟨v, hv, rv⟩ := z'.get (List.getElem?_eq_getElem hi)
    refine wpAny_pyNext_list_item hI il' (by simpa using hv) fun h' hI' hs' => hR v h' s'.toks hI' hs' ?_
    simpa [List.getD_eq_getElem?_getD, List.getElem?_eq_getElem hi] using rv
  · intro m' σ' s' S' hI hJ R E hR
    obtain ⟨it', il', z'⟩ := hL _ m' σ' hJ _ S'.hr
    exact wpAny_pyNext_list_end (S'.handled hX) hI il' (by simp [z'.length]) hR
  · intro i m' σ' hi hJ
    exact hturn i _ m' σ' (by simp [List.getD_eq_getElem?_getD, List.getElem?_eq_getElem hi]) hJ
  · exact ⟨_, Heap.get?_push_size _ rfl, rfl, rfl⟩
  · intro g f m' σ' s' r' S' P' q
    exact ⟨g, m', σ', r', S', P₁.trans P', q⟩
theorem Xs.forTup {x : Str} {j : Nat} {px pos : Pos} {iter : Expr} {body : List Stmt} (lc : Lc X.fd x j) (hs : ∀ x, foldedSetIterable iter X.env x = pure x)
    (h : Ev X (eval iter X.env) m σ EQ fun r σ₁ => ∃ l, r = .tup l ∧ ∃ I : Nat → Loc → Hp → Prop, I 0 m σ₁ ∧
      (∀ (i : Nat) a m σ, l[i]? = some a → I i m σ → ∃ m₁, SetAt m j a m₁ ∧ Xs X (execs body X.env) m₁ σ NoE (turnX I i QS)) ∧ (∀ m σ, I l.length m σ → QS .next m σ)) (hX : X.n ≠ 0 := by omega) :
    Xs X (exec (.For (.Name x px) iter body [] pos) X.env) m σ EQ QS := by
  intro s S
  refine wpAny_For (ev_then (h s S) (fun v s₁ r σ₁ r₁ S₁ P₁ h₁ => ?_) fun _ _ e => e) hs
  obtain ⟨l, rfl, I, h0, hturn, hfin⟩ := h₁
  obtain ⟨t, items, rfl, tt, z⟩ := r₁.tupE
  refine wpAny_pyIter_tuple tt ?_
  have Pg := S₁.push { cls := .type "tuple_iterator", data := .fields #[.ref t, .int 0 0] } (tk := s₁.toks)
  obtain ⟨f1, f2, f3, f4⟩ := fresh_not S₁
  have kp : ∀ a items, IsTup s₁.heap a items → IsTup (s₁.heap.push { cls := .type "tuple_iterator", data := .fields #[.ref t, .int 0 0] }) a items := fun a items x => x.push _
  refine for_core (s₀ := s₁) (N := l.length) (vals := fun i => l.getD i .none) (IS := fun i h => h.IsTupleIter s₁.heap.objs.size t i ∧ IsTup h t items.toArray ∧ VRs h l items) (I := I) (E := fun _ _ => True) Pg.1 Pg.2 lc (Heap.get?_none_of_le (Nat.le_refl _)) f1 f2 f3 f4 ?_ ?_ ?_ ?_ ?_ hfin h0 ?_ _ ?_
  · rintro i h h' ⟨⟨o, ho, r⟩, h2, h3⟩ hk kt; exact ⟨⟨o, hk _ ho, r⟩, kt _ _ h2, h3.keep kt⟩
  · rintro i h ⟨⟨o, ho, hc, _⟩, _⟩; exact ⟨o, ho, by rw [hc]; simp⟩
  · intro i m' σ' s' hi S' hI hJ R E hR
    obtain ⟨h1, h2, h3⟩ := hI
    obtain ⟨v, hv, rv⟩ := h3.get (List.getElem?_eq_getElem hi)
    refine wpAny_pyNext_tuple_item h1 h2 (by simpa using hv) fun h' hI' hs' => hR v h' s'.toks ?_ hs' ?_
    · have nt : ∀ it, ¬ IsTup s'.heap s₁.heap.objs.size it := by
        rintro it ⟨o, ho, hc, _⟩
        obtain ⟨o', ho', hc', _⟩ := h1
        rw [ho] at ho'; cases ho'; rw [hc] at hc'; exact absurd hc' (by simp)
      have kt := IsTup.keepBut (a := s₁.heap.objs.size) (fun b o hb e => (hs'.2 b hb).trans e) nt
      exact ⟨hI', kt _ _ h2, h3.keep kt⟩
    · simpa [List.getD_eq_getElem?_getD, List.getElem?_eq_getElem hi] using rv
  · intro m' σ' s' S' hI hJ R E hR
    exact wpAny_pyNext_tuple_end (S'.handled hX) hI.1 hI.2.1 (by simp [hI.2.2.length]) hR
  · intro i m' σ' hi hJ
    exact hturn i _ m' σ' (by simp [List.getD_eq_getElem?_getD, List.getElem?_eq_getElem hi]) hJ
  · exact ⟨⟨_, Heap.get?_push_size _ rfl, rfl, rfl⟩, kp _ _ tt, z.keep kp⟩
  · intro g f m' σ' s' r' S' P' q
    exact ⟨g, m', σ', r', S', P₁.trans P', q⟩
/-! while -/
theorem Xs.while {test : Expr} {body : List Stmt} {pos : Pos} (I : Nat → Loc → Hp → Prop)
    (hturn : ∀ n m σ, I n m σ → Tt X (isTrue test X.env (eval test X.env)) m σ NoE fun b σ₁ => match b with
      | true => Xs X (execs body X.env) m σ₁ NoE fun f m' σ' => match f with
        | .next => ∃ k, k < n ∧ I k m' σ'
        | .cont => ∃ k, k < n ∧ I k m' σ'
        | .brk => QS .next m' σ'
        | .ret a => QS (.ret a) m' σ'
      | false => QS .next m σ₁) (n : Nat) (h0 : I n m σ) : Xs X (exec (.While test body [] pos) X.env) m σ EQ QS := by
  intro s S
  refine wpAny_While ?_
  refine codeAny_whileLoop (prog := X.G.prog) (w := X.G.w) (fun n s' => ∃ m' σ', St X m' σ' s' ∧ Step X.L σ σ' s.heap s'.heap ∧ I n m' σ') ?_ n ⟨m, σ, S, .refl S.noL _, h0⟩
  rintro n s' ⟨m', σ', S', P', hI⟩
  refine tt_then (hturn n m' σ' hI s' S') (fun b s₁ σ₁ S₁ P₁ h₁ => ?_) fun e s₁ he => no_EP he
  cases b with
  | true =>
    refine wpAny_mono (h₁ s₁ S₁) (fun f s₃ ⟨g, m₃, σ₃, r₃, S₃, P₃, q⟩ => ?_) fun e s₃ he => no_EP he
    have P₄ := (P'.trans P₁).trans P₃
    cases g with
    | next => obtain rfl := r₃; obtain ⟨k, hk, q⟩ := q; exact ⟨k, hk, m₃, σ₃, S₃, P₄, q⟩
    | cont => obtain rfl := r₃; obtain ⟨k, hk, q⟩ := q; exact ⟨k, hk, m₃, σ₃, S₃, P₄, q⟩
    | brk => obtain rfl := r₃; exact ⟨.next, m₃, σ₃, rfl, S₃, P₄, q⟩
    | ret a => obtain ⟨w, rfl, rw⟩ := r₃; exact ⟨.ret a, m₃, σ₃, ⟨w, rfl, rw⟩, S₃, P₄, q⟩
  | false => exact wpAny_execs_nil ⟨.next, m', σ₁, rfl, S₁, P'.trans P₁, h₁⟩
/-! an object made -/
theorem CallOk.make {G : Gl} {n : Nat} {C fI : Addr} {args : List AV} {σ : Hp} {Q : AV → Hp → Prop} {names : List Str} (g : GOk G) (hm : makesIn G.K C = true) (hi : findIn G.K (.ref C) "__init__" = some (some (.ref fI))) (hf : typeIn G.K (.ref fI) = some (.type "function"))
    (h : ∀ x dx, x ∉ σ.map (·.1) → dx ∉ σ.map (·.1) → CallOk G n (.ref fI) (.ref x :: args) ((x, .inst C dx) :: (dx, .ns names []) :: σ) fun v σ' => v = .none ∧ Q (.ref x) σ') : CallOk G (n + 1) (.ref C) args σ Q := by
  intro A hr s vals H hg ho h2 r
  have X := g.kin.keeps H.base
  obtain ⟨hh, gg, d, t, os⟩ := s
  have k : ∀ b o, hh.get? b = some o → ((hh.push emptyDict).push (instObj C hh.objs.size)).get? b = some o := fun b o e => Heap.get?_push_of_some _ (Heap.get?_push_of_some _ e)
  have fr : ∀ a, hh.objs.size ≤ a → a ∉ σ.map (·.1) := fun a ha q => by
    obtain ⟨o, hp, e⟩ := H.own_of q
    have : hh.get? a = none := Heap.get?_none_of_le ha
    cases o with
    | list l => obtain ⟨i, n, x, y⟩ := e; rw [this] at x; cases x
    | dS l => obtain ⟨i, ⟨o, es, ep, x, y⟩, z⟩ := e; rw [this] at x; cases x
    | dI l => obtain ⟨i, ⟨o, es, ep, x, y⟩, z⟩ := e; rw [this] at x; cases x
    | dT l => obtain ⟨i, ⟨o, es, ep, x, y⟩, z⟩ := e; rw [this] at x; cases x
    | inst C dx => have e : hh.get? a = _ := e; rw [this] at e; cases e
    | ns n v => obtain ⟨o, es, ep, x, y⟩ := e; rw [this] at x; cases x
    | rng x y => obtain ⟨t, u, v, q⟩ := e; have q : hh.get? a = _ := q; rw [this] at q; cases q
    | exc C dx => obtain ⟨t, q⟩ := e; rw [this] at q; cases q
    | held C dx => obtain ⟨o, vs, q, z⟩ := e; rw [this] at q; cases q
    | cell v => obtain ⟨o, w, q, z⟩ := e; rw [this] at q; cases q
  have n1 := fr hh.objs.size (Nat.le_refl _)
  have n2 := fr (hh.objs.size + 1) (Nat.le_succ _)
  have w0 : ∀ a, hh.objs.size ≤ a → G.W0.get? a = none := fun a ha => by
    cases q : G.W0.get? a with
    | none => rfl
    | some o => have := H.base _ _ q; rw [Heap.get?_none_of_le ha] at this; cases this
  have kt := IsTup.keepAll k
  have gd : ((hh.push emptyDict).push (instObj C hh.objs.size)).get? hh.objs.size = some emptyDict := Heap.get?_push_of_some _ (Heap.get?_push_size _ rfl)
  have gx : ((hh.push emptyDict).push (instObj C hh.objs.size)).get? (hh.objs.size + 1) = some (instObj C hh.objs.size) := by
    have := Heap.get?_push_size (hh.push emptyDict) (o := instObj C hh.objs.size) rfl
    rwa [Heap.size_push] at this
  have H' : HRel G ((hh.objs.size + 1, .inst C hh.objs.size) :: (hh.objs.size, .ns names []) :: σ) ((hh.push emptyDict).push (instObj C hh.objs.size)) := by
    refine ⟨fun p hp => ?_, ?_, fun b o e => k b o (H.base b o e), fun p hp => ?_, fun p hp => ?_⟩
    · rcases List.mem_cons.mp hp with rfl | hp
      · exact gx
      rcases List.mem_cons.mp hp with rfl | hp
      · refine ⟨_, #[], 0, gd, rfl, fun e he => by simp at he, fun y => ?_, by simp⟩
        have : getN names [] y = none := by unfold getN; cases names.findIdx? (· == y) <;> simp
        rw [this]; rfl
      · exact (H.own p hp).keep kt (k p.1)
    · simp only [List.map_cons, List.nodup_cons, List.mem_cons, not_or]
      exact ⟨⟨Nat.succ_ne_self _, n2⟩, n1, H.nd⟩
    · rcases List.mem_cons.mp hp with rfl | hp
      · exact w0 _ (Nat.le_succ _)
      rcases List.mem_cons.mp hp with rfl | hp
      · exact w0 _ (Nat.le_refl _)
      · exact H.apart p hp
    · have h2 : 2 ≤ hh.objs.size := h2
      rcases List.mem_cons.mp hp with rfl | hp
      · exact Nat.le_succ_of_le h2
      rcases List.mem_cons.mp hp with rfl | hp
      · exact h2
      · exact H.lo p hp
  refine make_core (makes_of X hm) (looks_findIn X hi) (fun self => bind_fn X self hf) (.inl rfl) ?_
  have hr' : Rm (A.under (.builtin "type.__call__" ⟨.ref C :: vals, []⟩)) n := by
    obtain ⟨r1, r2, r3⟩ := hr
    refine ⟨?_, ?_, .inr (r3.resolve_left (Nat.succ_ne_zero n))⟩
    · show A.depth + 1 + n < recursionLimit; omega
    · show A.units + 1 + 5 * n + 20 < cLine; omega
  refine codeAny_mono (h (hh.objs.size + 1) hh.objs.size n2 n1 _ hr' ⟨(hh.push emptyDict).push (instObj C hh.objs.size), gg, d, t, os⟩ (.ref (hh.objs.size + 1) :: vals) H' hg ho (by
    show 2 ≤ ((hh.push emptyDict).push _).objs.size
    rw [Heap.size_push, Heap.size_push]; have h2 : 2 ≤ hh.objs.size := h2; omega) (.cons .refI (r.keep kt))) ?_
  rintro rr s' ⟨v, a, σ', rfl, rv, Hf, Cf, gf, of, rfl, q⟩
  refine ⟨rv.noneE, .ref (hh.objs.size + 1), .ref (hh.objs.size + 1), σ', rfl, .refI, Hf, ⟨fun b o hb e => Cf.keep b o ?_ (k b o e), fun b hb => ?_⟩, gf, of, q⟩
  · have lt : b < hh.objs.size := Heap.lt_size e
    simp only [List.map_cons, List.mem_cons, not_or]
    exact ⟨Nat.ne_of_lt (Nat.lt_succ_of_lt lt), Nat.ne_of_lt lt, hb⟩
  · rcases Cf.new b hb with h | h
    · simp only [List.map_cons, List.mem_cons] at h
      rcases h with rfl | rfl | h
      · exact .inr (Heap.get?_none_of_le (Nat.le_succ _))
      · exact .inr (Heap.get?_none_of_le (Nat.le_refl _))
      · exact .inl h
    · refine .inr ?_
      cases e : hh.get? b with
      | none => rfl
      | some o => have h : ((hh.push emptyDict).push _).get? b = none := h; rw [k b o e] at h; cases h
end
open PySem PySem.W PySem.Calls PyProof.Rows PySem.SeqAt
noncomputable def Lcs (fd : FuncData) : Nat → List Str → Prop
  | _, [] => True
  | i, x :: r => Lc fd x i ∧ Lcs fd (i + 1) r
noncomputable def Gbs (fd : FuncData) : List Str → Prop
  | [] => True
  | x :: r => Gb fd x ∧ Gbs fd r
theorem lookup_kind {k : NameKind} {x : Str} : ∀ {ns : List (Str × NameKind)}, (ns.map (·.1)).Nodup → (x, k) ∈ ns → ns.lookup x = some k
  | [], _, h => by cases h
  | (y, k') :: r, nd, h => by
    simp only [List.map_cons, List.nodup_cons] at nd
    simp only [List.lookup]
    rcases List.mem_cons.mp h with e | h2
    · cases e; simp
    · have : x ≠ y := by
        intro e
        have h3 : x ∈ r.map (·.1) := List.mem_map_of_mem (f := (·.1)) h2
        exact nd.1 (e ▸ h3)
      rw [beq_eq_false_iff_ne.mpr this]
      exact lookup_kind nd.2 h2
theorem findIdx_of {names : List Str} (nd : names.Nodup) {i : Nat} {x : Str} (h : names[i]? = some x) : names.findIdx? (· == x) = some i := by
  obtain ⟨hlt, e⟩ := List.getElem?_eq_some_iff.mp h
  refine List.findIdx?_eq_some_iff_getElem.mpr ⟨hlt, by simp [e], fun j hj => ?_⟩
  have : names[j] ≠ x := by
    intro q
    have h2 : j < names.length := by omega
    have := (List.getElem_inj (h₀ := h2) (h₁ := hlt) nd).mp (q.trans e.symm)
    omega
  simpa using this
structure NmOk (fd : FuncData) (ls gs : List Str) : Prop where
  eq : fd.scope.names = ls.map (fun x => (x, NameKind.local)) ++ gs.map fun x => (x, NameKind.globalImplicit)
  nd : (("__debug__" : Str) :: (ls ++ gs)).Nodup
theorem NmOk.names {fd : FuncData} {ls gs : List Str} (N : NmOk fd ls gs) : fd.scope.names.map (·.1) = ls ++ gs := by
  rw [N.eq]; simp [Function.comp_def]
theorem NmOk.lcs {fd : FuncData} {ls gs : List Str} (N : NmOk fd ls gs) : Lcs fd 0 ls := by
  have key : ∀ i x, ls[i]? = some x → Lc fd x i := fun i x h => by
    have nd := (List.nodup_cons.mp N.nd)
    have hx : x ∈ ls := List.mem_of_getElem? h
    refine ⟨?_, lookup_kind (by rw [N.names]; exact nd.2) (by rw [N.eq]; simp [hx]), ?_⟩
    · show List.findIdx? _ _ = _
      rw [N.names]
      exact findIdx_of nd.2 (by rw [List.getElem?_append_left (List.getElem?_eq_some_iff.mp h).1]; exact h)
    · rw [beq_eq_false_iff_ne]; rintro rfl; exact nd.1 (List.mem_append_left _ hx)
  have gen : ∀ (r : List Str) (k : Nat), (∀ i x, r[i]? = some x → Lc fd x (k + i)) → Lcs fd k r := by
    intro r
    induction r with
    | nil => intro k h; trivial
    | cons x r ih => intro k h; exact ⟨h 0 x rfl, ih (k + 1) fun i y hy => by have := h (i + 1) y (by simpa using hy); rwa [show k + 1 + i = k + (i + 1) by omega]⟩
  exact gen ls 0 fun i x h => by rw [Nat.zero_add]; exact key i x h
theorem NmOk.gbs {fd : FuncData} {ls gs : List Str} (N : NmOk fd ls gs) : Gbs fd gs := by
  have key : ∀ x ∈ gs, Gb fd x := fun x hx => by
    have nd := (List.nodup_cons.mp N.nd)
    refine ⟨lookup_kind (by rw [N.names]; exact nd.2) (by rw [N.eq]; simp [hx]), ?_⟩
    rw [beq_eq_false_iff_ne]; rintro rfl; exact nd.1 (List.mem_append_right _ hx)
  have gen : ∀ (r : List Str), (∀ x ∈ r, Gb fd x) → Gbs fd r := by
    intro r
    induction r with
    | nil => intro h; trivial
    | cons x r ih => intro h; exact ⟨h x (.head _), ih fun y hy => h y (.tail _ hy)⟩
  exact gen gs key
/-- plain positional parameters -/
structure FnIn (K : Frag) (a : Addr) (fd : FuncData) (ps : List Str) (ls' gs : List Str) (body : List Stmt) : Prop where
  look : ∃ oc od osl, K.lookup a = some ⟨oc, od, .func fd, osl⟩
  glob : fd.globals = mainGlobals
  blt : fd.builtins = builtinsNs
  clo : fd.closure = []
  kind : fd.scope.kind = .function
  co : fd.scope.isCoroutine = false
  gen : fd.scope.isGenerator = false
  code : codeIn K fd.code fd.qualname = true
  body : fd.body = .stmts body
  nm : NmOk fd (ps ++ ls') gs
  ps : ∀ (s : Shared) (vals : List Value), K.In s.heap → vals.length = ps.length → BindsTo s fd ⟨vals, []⟩ (ps.zip vals)
theorem FnIn.ok {G : Gl} {a : Addr} {fd : FuncData} {ps ls' gs : List Str} {body : List Stmt} (F : FnIn G.K a fd ps ls' gs body) : FnOk G a fd ps body where
  look := F.look
  glob := F.glob
  blt := F.blt
  clo := F.clo
  kind := F.kind
  co := F.co
  gen := F.gen
  cell := by rw [F.nm.eq]; simp
  code := F.code
  body := F.body
  pre := by rw [F.nm.names]; simp
  nd := by rw [F.nm.names]; exact (List.nodup_cons.mp F.nm.nd).2
  loc := by
    rw [List.all_eq_true]; intro x hx
    have nd := (List.nodup_cons.mp F.nm.nd)
    rw [lookup_kind (k := .local) (by rw [F.nm.names]; exact nd.2) (by rw [F.nm.eq]; simp [hx])]; rfl
theorem lenS {α : Type} {n : Nat} {l : List α} (h : l.length = n + 1) : ∃ a r, l = a :: r ∧ r.length = n := by
  cases l with
  | nil => cases h
  | cons a r => exact ⟨a, r, rfl, Nat.succ.inj h⟩
theorem bind0 {fd : FuncData} (h : bindArgs fd ⟨[], []⟩ = pure []) (vals : List Value) (hl : vals.length = 0) : bindArgs fd ⟨vals, []⟩ = pure (([] : List Str).zip vals) := by
  obtain rfl := List.eq_nil_of_length_eq_zero hl
  exact h
theorem bind1 {fd : FuncData} {p : Str} (h : ∀ a, bindArgs fd ⟨[a], []⟩ = pure [(p, a)]) (vals : List Value) (hl : vals.length = [p].length) : bindArgs fd ⟨vals, []⟩ = pure ([p].zip vals) := by
  obtain ⟨a, v1, e1, h1⟩ := lenS hl
  subst e1
  obtain rfl := List.eq_nil_of_length_eq_zero h1
  exact h a
theorem bind2 {fd : FuncData} {p q : Str} (h : ∀ a b, bindArgs fd ⟨[a, b], []⟩ = pure [(p, a), (q, b)]) (vals : List Value) (hl : vals.length = [p, q].length) : bindArgs fd ⟨vals, []⟩ = pure ([p, q].zip vals) := by
  obtain ⟨a, v1, e1, h1⟩ := lenS hl
  subst e1
  obtain ⟨b, v2, e2, h2⟩ := lenS h1
  subst e2
  obtain rfl := List.eq_nil_of_length_eq_zero h2
  exact h a b
theorem bind3 {fd : FuncData} {p q r : Str} (h : ∀ a b c, bindArgs fd ⟨[a, b, c], []⟩ = pure [(p, a), (q, b), (r, c)]) (vals : List Value) (hl : vals.length = [p, q, r].length) : bindArgs fd ⟨vals, []⟩ = pure ([p, q, r].zip vals) := by
  obtain ⟨a, v1, e1, h1⟩ := lenS hl
  subst e1
  obtain ⟨b, v2, e2, h2⟩ := lenS h1
  subst e2
  obtain ⟨c, v3, e3, h3⟩ := lenS h2
  subst e3
  obtain rfl := List.eq_nil_of_length_eq_zero h3
  exact h a b c
theorem bind4 {fd : FuncData} {p q r t : Str} (h : ∀ a b c d, bindArgs fd ⟨[a, b, c, d], []⟩ = pure [(p, a), (q, b), (r, c), (t, d)]) (vals : List Value) (hl : vals.length = [p, q, r, t].length) : bindArgs fd ⟨vals, []⟩ = pure ([p, q, r, t].zip vals) := by
  obtain ⟨a, v1, e1, h1⟩ := lenS hl
  subst e1
  obtain ⟨b, v2, e2, h2⟩ := lenS h1
  subst e2
  obtain ⟨c, v3, e3, h3⟩ := lenS h2
  subst e3
  obtain ⟨d, v4, e4, h4⟩ := lenS h3
  subst e4
  obtain rfl := List.eq_nil_of_length_eq_zero h4
  exact h a b c d
theorem bind5 {fd : FuncData} {p q r t u : Str} (h : ∀ a b c d e, bindArgs fd ⟨[a, b, c, d, e], []⟩ = pure [(p, a), (q, b), (r, c), (t, d), (u, e)]) (vals : List Value) (hl : vals.length = [p, q, r, t, u].length) : bindArgs fd ⟨vals, []⟩ = pure ([p, q, r, t, u].zip vals) := by
  obtain ⟨a, v1, e1, h1⟩ := lenS hl
  subst e1
  obtain ⟨b, v2, e2, h2⟩ := lenS h1
  subst e2
  obtain ⟨c, v3, e3, h3⟩ := lenS h2
  subst e3
  obtain ⟨d, v4, e4, h4⟩ := lenS h3
  subst e4
  obtain ⟨e, v5, e5, h5⟩ := lenS h4
  subst e5
  obtain rfl := List.eq_nil_of_length_eq_zero h5
  exact h a b c d e
theorem bindE {K : Frag} {fd : FuncData} {ps : List Str} (h : ∀ vals : List Value, vals.length = ps.length → bindArgs fd ⟨vals, []⟩ = pure (ps.zip vals)) : ∀ (s : Shared) (vals : List Value), K.In s.heap → vals.length = ps.length → BindsTo s fd ⟨vals, []⟩ (ps.zip vals) :=
  fun s vals _ hl => .of_eq (h vals hl)
theorem bindD3 {K : Frag} {fd : FuncData} {p q r : Str} (h : ∀ (s : Shared) a b c, K.In s.heap → BindsTo s fd ⟨[a, b, c], []⟩ [(p, a), (q, b), (r, c)]) (s : Shared) (vals : List Value) (X : K.In s.heap) (hl : vals.length = [p, q, r].length) : BindsTo s fd ⟨vals, []⟩ ([p, q, r].zip vals) := by
  obtain ⟨a, v1, e1, h1⟩ := lenS hl
  subst e1
  obtain ⟨b, v2, e2, h2⟩ := lenS h1
  subst e2
  obtain ⟨c, v3, e3, h3⟩ := lenS h2
  subst e3
  obtain rfl := List.eq_nil_of_length_eq_zero h3
  exact h s a b c X
/-- a call of a def: its body is walked with its names alone known -/
theorem CallOk.go {G : Gl} {n : Nat} {a : Addr} {fd : FuncData} {ps ls' gs : List Str} {body : List Stmt} {args : List AV} {σ : Hp} {Q : AV → Hp → Prop} (F : FnIn G.K a fd ps ls' gs body) (g : GOk G) (hl : args.length = ps.length)
    (h : ∀ fd' L A, Lcs fd' 0 (ps ++ ls') → Gbs fd' gs → Xs (.mk0 G fd' L a A n none) (execs body (Fx.env (.mk0 G fd' L a A n none))) (args.map some) σ NoE (retX Q)) : CallOk G (n + 1) (.ref a) args σ Q :=
  .enterB F.ok g (fun h vals s X r => F.ps s vals X (by rw [r.length, hl])) hl fun L A => h fd L A F.nm.lcs F.nm.gbs
open PySem PySem.W PySem.Calls PyProof.Rows PySem.SeqAt
section
variable {X : Fx} {m : Loc} {σ : Hp} {EQ : EPost} {Q : AV → Hp → Prop} {QS : AF → Loc → Hp → Prop} {QB : Bool → Hp → Prop}
theorem thenX_n {rest : List Stmt} (h : Xs X (execs rest X.env) m σ EQ QS) : thenX X rest EQ QS .next m σ := h
theorem thenX_r {rest : List Stmt} {v : AV} (h : QS (.ret v) m σ) : thenX X rest EQ QS (.ret v) m σ := h
theorem thenX_b {rest : List Stmt} (h : QS .brk m σ) : thenX X rest EQ QS .brk m σ := h
theorem retX_r {v : AV} (h : Q v σ) : retX Q (.ret v) m σ := h
theorem retX_n (h : Q .none σ) : retX Q .next m σ := h
theorem ifX_t {a b : List Stmt} {c : Bool} (e : c = true) (h : Xs X (execs a X.env) m σ EQ QS) : ifX X m EQ a b QS c σ := by subst e; exact h
theorem ifX_f {a b : List Stmt} {c : Bool} (e : c = false) (h : Xs X (execs b X.env) m σ EQ QS) : ifX X m EQ a b QS c σ := by subst e; exact h
theorem ifX_c {a b : List Stmt} {c : Bool} (h1 : c = true → Xs X (execs a X.env) m σ EQ QS) (h2 : c = false → Xs X (execs b X.env) m σ EQ QS) : ifX X m EQ a b QS c σ := by
  cases c with
  | true => exact h1 rfl
  | false => exact h2 rfl
theorem ifE_c {a b : Expr} {c : Bool} (h1 : c = true → Ev X (eval a X.env) m σ EQ Q) (h2 : c = false → Ev X (eval b X.env) m σ EQ Q) : ifE X m EQ a b Q c σ := by
  cases c with
  | true => exact h1 rfl
  | false => exact h2 rfl
theorem andX_t {c : Bool} {rest} (e : c = true) (h : Tt X rest m σ EQ QB) : andX X m EQ rest QB c σ := by subst e; exact h
theorem andX_f {c : Bool} {rest} (e : c = false) (h : QB false σ) : andX X m EQ rest QB c σ := by subst e; exact h
theorem orX_t {c : Bool} {rest} (e : c = true) (h : QB true σ) : orX X m EQ rest QB c σ := by subst e; exact h
theorem orX_f {c : Bool} {rest} (e : c = false) (h : Tt X rest m σ EQ QB) : orX X m EQ rest QB c σ := by subst e; exact h
theorem andV_t {c : Bool} {rest} (e : c = true) (h : Ev X rest m σ EQ Q) : andV X m EQ rest Q (.bool c) σ := by subst e; exact h
theorem andV_f {c : Bool} {rest} (e : c = false) (h : Q (.bool false) σ) : andV X m EQ rest Q (.bool c) σ := by subst e; exact h
theorem orV_t {c : Bool} {rest} (e : c = true) (h : Q (.bool true) σ) : orV X m EQ rest Q (.bool c) σ := by subst e; exact h
theorem orV_f {c : Bool} {rest} (e : c = false) (h : Ev X rest m σ EQ Q) : orV X m EQ rest Q (.bool c) σ := by subst e; exact h
theorem EvL.nil' {Q : List AV → Hp → Prop} (h : Q [] σ) : EvL X [] m σ EQ Q := h
theorem EvL.cons' {e : Expr} {r : List Expr} {Q : List AV → Hp → Prop} (h : Ev X (eval e X.env) m σ EQ fun a σ₁ => EvL X r m σ₁ EQ fun l σ₂ => Q (a :: l) σ₂) : EvL X (e :: r) m σ EQ Q := h
theorem Ev.attr' {value : Expr} {attr : Str} {pos : Pos} (he : eval (.Attribute value attr pos) X.env = (do
      let o ← eval value X.env
      standAt pos.atName
      let r ← holding [o] (getAttr o attr true)
      letTemporaryGo value o r
      pure r)) (h : Ev X (eval value X.env) m σ EQ fun r σ₁ => Op1 X m σ₁ EQ (fun v => getAttr v attr true) r Q) : Ev X (eval (.Attribute value attr pos) X.env) m σ EQ Q := .attr h he
theorem Ev.callM' {o : Expr} {name : Str} {apos pos : Pos} {args : List Expr} {pl : Sem Bool} 
    (he : eval (.Call (.Attribute o name apos) args [] pos) X.env = (do
      let ov ← eval o X.env
      standAt apos.atName
      let (f, first) ← holding [ov] (getMethod ov name pl)
      callWith pos f first (backTo pos (starEach args X.env)) (backToKw pos (keywordEach [] X.env)))) (hs : noStar args = true)
    (h : Ev X (eval o X.env) m σ EQ fun ov σ₁ => ∃ f, Mth X m σ₁ ov name f ∧ keepOk X.G.K (avOf f) = true ∧ EvL X args m σ₁ EQ fun l σ₂ => Cl X m σ₂ EQ (avOf f) (ov :: l) Q) :
    Ev X (eval (.Call (.Attribute o name apos) args [] pos) X.env) m σ EQ Q := .callM hs he h
theorem setL {i : Nat} {a : AV} {m' : Loc} (h : SetAt m i a m') (q : QS .next m' σ) : ∃ m', SetAt m i a m' ∧ QS .next m' σ := ⟨m', h, q⟩
end
open PySem PySem.W PySem.Calls PyProof.Rows PySem.SeqAt
structure AtN (K : Frag) (C : Addr) (names : List Str) (x : Str) (i : Nat) : Prop where
  at_ : AtC K C x
  ix : NIx names x i
structure MtN (K : Frag) (C : Addr) (names : List Str) (x : Str) (f : Addr) : Prop where
  mt : MtC K C x f
  no : names.findIdx? (· == x) = none
  keep : keepOk K (.ref f) = true
structure GlF (K : Frag) (x : Str) (a : Addr) : Prop where
  ns : nsIn K mainGlobals x = some (some (.ref a))
  keep : keepOk K (.ref a) = true
structure GlB (K : Frag) (x : Str) (v : Value) : Prop where
  ns : nsIn K mainGlobals x = some none
  blt : bootBuiltins x = some v
  ne : x ≠ "__name__"
  keep : keepOk K (.oth v) = true
structure GlI (K : Frag) (x : Str) (i : Int) : Prop where
  ns : ∃ t, nsIn K mainGlobals x = some (some (.int i t))
section
variable {X : Fx} {m : Loc} {σ : Hp} {EQ : EPost} {Q : AV → Hp → Prop} {QS : AF → Loc → Hp → Prop} {QB : Bool → Hp → Prop}
theorem Ev.globF {x : Str} {a : Addr} {pos} (l : Gb X.fd x) (e : GlF X.G.K x a) (q : Q (.ref a) σ) : Ev X (eval (.Name x pos) X.env) m σ EQ Q := .glob l e.ns (fun _ => .refI) q
theorem Ev.globI {x : Str} {i : Int} {pos} (l : Gb X.fd x) (e : GlI X.G.K x i) (q : Q (.int i) σ) : Ev X (eval (.Name x pos) X.env) m σ EQ Q := by
  obtain ⟨t, e⟩ := e.ns
  exact .glob l e (fun _ => .intI) q
theorem Ev.globB {x : Str} {v : Value} {pos} (l : Gb X.fd x) (e : GlB X.G.K x v) (q : Q (.oth v) σ) : Ev X (eval (.Name x pos) X.env) m σ EQ Q := .blt l e.ns e.blt e.ne q
theorem Ev.callF {id : Str} {a : Addr} {p pos : Pos} {args : List Expr} (l : Gb X.fd id) (e : GlF X.G.K id a) (hs : noStar args = true)
    (h : EvL X args m σ EQ fun l σ₂ => Cl X m σ₂ EQ (.ref a) l Q) : Ev X (eval (.Call (.Name id p) args [] pos) X.env) m σ EQ Q := .callN hs (.globF l e ⟨e.keep, h⟩)
theorem Ev.callB {id : Str} {v : Value} {p pos : Pos} {args : List Expr} (l : Gb X.fd id) (e : GlB X.G.K id v) (hs : noStar args = true)
    (h : EvL X args m σ EQ fun l σ₂ => Cl X m σ₂ EQ (.oth v) l Q) : Ev X (eval (.Call (.Name id p) args [] pos) X.env) m σ EQ Q := .callN hs (.globB l e ⟨e.keep, h⟩)
theorem Op1.at {x C dx : Addr} {attr : Str} {names : List Str} {vals : List (Option AV)} {i : Nat} {a : AV} (hx : (x, .inst C dx) ∈ σ) (hd : (dx, .ns names vals) ∈ σ) (c : AtN X.G.K C names attr i)
    (g : GetAt vals i a) (k : a.known = true) (q : Q a σ) : Op1 X m σ EQ (fun v => getAttr v attr true) (.ref x) Q := .get hx hd c.at_ c.ix g k q
theorem mthO {x C dx f : Addr} {name : Str} {names : List Str} {vals : List (Option AV)} {args : List Expr} (hx : (x, .inst C dx) ∈ σ) (hd : (dx, .ns names vals) ∈ σ) (c : MtN X.G.K C names name f)
    (h : EvL X args m σ EQ fun l σ₂ => Cl X m σ₂ EQ (.ref f) (.ref x :: l) Q) :
    ∃ f, Mth X m σ (.ref x) name f ∧ keepOk X.G.K (avOf f) = true ∧ EvL X args m σ EQ fun l σ₂ => Cl X m σ₂ EQ (avOf f) (.ref x :: l) Q := ⟨.ref f, .own hx hd c.mt c.no, c.keep, h⟩
theorem mthGetS {x : Addr} {kvs : List (Str × AV)} {args : List Expr} (hx : (x, .dS kvs) ∈ σ) (h : EvL X args m σ EQ fun l σ₂ => Cl X m σ₂ EQ (.oth (.builtin "dict.get")) (.ref x :: l) Q) :
    ∃ f, Mth X m σ (.ref x) "get" f ∧ keepOk X.G.K (avOf f) = true ∧ EvL X args m σ EQ fun l σ₂ => Cl X m σ₂ EQ (avOf f) (.ref x :: l) Q := ⟨_, .get (κ := Str) hx, rfl, h⟩
theorem mthGetI {x : Addr} {kvs : List (Int × AV)} {args : List Expr} (hx : (x, .dI kvs) ∈ σ) (h : EvL X args m σ EQ fun l σ₂ => Cl X m σ₂ EQ (.oth (.builtin "dict.get")) (.ref x :: l) Q) :
    ∃ f, Mth X m σ (.ref x) "get" f ∧ keepOk X.G.K (avOf f) = true ∧ EvL X args m σ EQ fun l σ₂ => Cl X m σ₂ EQ (avOf f) (.ref x :: l) Q := ⟨_, .get (κ := Int) hx, rfl, h⟩
theorem mthGetT {x : Addr} {kvs : List (List Int × AV)} {args : List Expr} (hx : (x, .dT kvs) ∈ σ) (h : EvL X args m σ EQ fun l σ₂ => Cl X m σ₂ EQ (.oth (.builtin "dict.get")) (.ref x :: l) Q) :
    ∃ f, Mth X m σ (.ref x) "get" f ∧ keepOk X.G.K (avOf f) = true ∧ EvL X args m σ EQ fun l σ₂ => Cl X m σ₂ EQ (avOf f) (.ref x :: l) Q := ⟨_, .get (κ := List Int) hx, rfl, h⟩
theorem mthApp {x : Addr} {l : List AV} {args : List Expr} (hx : (x, .list l) ∈ σ) (h : EvL X args m σ EQ fun l σ₂ => Cl X m σ₂ EQ (.oth (.builtin "list.append")) (.ref x :: l) Q) :
    ∃ f, Mth X m σ (.ref x) "append" f ∧ keepOk X.G.K (avOf f) = true ∧ EvL X args m σ EQ fun l σ₂ => Cl X m σ₂ EQ (avOf f) (.ref x :: l) Q := ⟨_, .append hx, rfl, h⟩
theorem mthPop {x : Addr} {l : List AV} {args : List Expr} (hx : (x, .list l) ∈ σ) (h : EvL X args m σ EQ fun l σ₂ => Cl X m σ₂ EQ (.oth (.builtin "list.pop")) (.ref x :: l) Q) :
    ∃ f, Mth X m σ (.ref x) "pop" f ∧ keepOk X.G.K (avOf f) = true ∧ EvL X args m σ EQ fun l σ₂ => Cl X m σ₂ EQ (avOf f) (.ref x :: l) Q := ⟨_, .pop hx, rfl, h⟩
theorem mthRev {x : Addr} {l : List AV} {args : List Expr} (hx : (x, .list l) ∈ σ) (h : EvL X args m σ EQ fun l σ₂ => Cl X m σ₂ EQ (.oth (.builtin "list.reverse")) (.ref x :: l) Q) :
    ∃ f, Mth X m σ (.ref x) "reverse" f ∧ keepOk X.G.K (avOf f) = true ∧ EvL X args m σ EQ fun l σ₂ => Cl X m σ₂ EQ (avOf f) (.ref x :: l) Q := ⟨_, .reverse hx, rfl, h⟩
theorem Cl.getS {d : Addr} {kvs : List (Str × AV)} {k : Str} {a : AV} (hn : 1 ≤ X.n) (hm : (d, .dS kvs) ∈ σ) (q : Q ((aget kvs k).getD a) σ) : Cl X m σ EQ (.oth (.builtin "dict.get")) [.ref d, .str k, a] Q := .get (κ := Str) hn hm q
theorem Cl.getI {d : Addr} {kvs : List (Int × AV)} {k : Int} {a : AV} (hn : 1 ≤ X.n) (hm : (d, .dI kvs) ∈ σ) (q : Q ((aget kvs k).getD a) σ) : Cl X m σ EQ (.oth (.builtin "dict.get")) [.ref d, .int k, a] Q := .get (κ := Int) hn hm q
theorem Cl.getI1 {d : Addr} {kvs : List (Int × AV)} {k : Int} (hn : 1 ≤ X.n) (hm : (d, .dI kvs) ∈ σ) (q : Q ((aget kvs k).getD .none) σ) : Cl X m σ EQ (.oth (.builtin "dict.get")) [.ref d, .int k] Q := .get1 (κ := Int) hn hm q
theorem Cl.getT2 {d : Addr} {kvs : List (List Int × AV)} {k j : Int} {a : AV} (hn : 1 ≤ X.n) (hm : (d, .dT kvs) ∈ σ) (q : Q ((aget kvs [k, j]).getD a) σ) : Cl X m σ EQ (.oth (.builtin "dict.get")) [.ref d, .tup [.int k, .int j], a] Q := .get (κ := List Int) (k := [k, j]) hn hm q
theorem Cl.fn' {n : Nat} {a : Addr} {l : List AV} (h : CallOk X.G n (.ref a) l σ Q) (hn : n ≤ X.n) : Cl X m σ EQ (.ref a) l Q := .fn (h.mono hn fun _ _ q => q)
theorem setAttrX {ov : AV} {x C dx : Addr} {attr : Str} {names : List Str} {vals vals' : List (Option AV)} {i : Nat} {a : AV} {σ' : Hp} (e : ov = .ref x) (hx : (x, .inst C dx) ∈ σ) (u : UpdL dx (.ns names vals) (.ns names vals') σ σ') (c : AtN X.G.K C names attr i) (w : StC X.G.K C) (g : SetAt vals i a vals')
    (hz : vals.length ≤ 900) (hi : i ≤ 900) (q : QS .next m σ') : ∃ x C dx names vals vals' i σ', ov = .ref x ∧ (x, .inst C dx) ∈ σ ∧ UpdL dx (.ns names vals) (.ns names vals') σ σ' ∧ AtC X.G.K C attr ∧ StC X.G.K C ∧ NIx names attr i ∧ SetAt vals i a vals' ∧
      vals.length ≤ 900 ∧ i ≤ 900 ∧ QS .next m σ' := ⟨_, _, _, _, _, _, _, _, e, hx, u, c.at_, w, c.ix, g, hz, hi, q⟩
theorem Xs.setItemS {o i value : Expr} {pos' pos : Pos} (hc : noComp value = true)
    (h : Ev X (eval value X.env) m σ EQ fun a σ₁ => Ev X (eval o X.env) m σ₁ EQ fun ov σ₂ => Ev X (eval i X.env) m σ₂ EQ fun kv σ₃ => ∃ d kvs k σ', ov = .ref d ∧ kv = .str k ∧ UpdL d (.dS kvs) (.dS (aput kvs k a)) σ₃ σ' ∧ kvs.length ≤ 100000 ∧ 1 ≤ X.n ∧ QS .next m σ') :
    Xs X (exec (.Assign [.Subscript o i pos'] value pos) X.env) m σ EQ QS := .setItem (κ := Str) hc h
theorem Xs.setItemI {o i value : Expr} {pos' pos : Pos} (hc : noComp value = true)
    (h : Ev X (eval value X.env) m σ EQ fun a σ₁ => Ev X (eval o X.env) m σ₁ EQ fun ov σ₂ => Ev X (eval i X.env) m σ₂ EQ fun kv σ₃ => ∃ d kvs k σ', ov = .ref d ∧ kv = .int k ∧ UpdL d (.dI kvs) (.dI (aput kvs k a)) σ₃ σ' ∧ kvs.length ≤ 100000 ∧ 1 ≤ X.n ∧ QS .next m σ') :
    Xs X (exec (.Assign [.Subscript o i pos'] value pos) X.env) m σ EQ QS := .setItem (κ := Int) hc h
theorem Xs.setItemT {o i value : Expr} {pos' pos : Pos} (hc : noComp value = true)
    (h : Ev X (eval value X.env) m σ EQ fun a σ₁ => Ev X (eval o X.env) m σ₁ EQ fun ov σ₂ => Ev X (eval i X.env) m σ₂ EQ fun kv σ₃ => ∃ d kvs k σ', ov = .ref d ∧ kv = .tup (List.map .int k) ∧ UpdL d (.dT kvs) (.dT (aput kvs k a)) σ₃ σ' ∧ kvs.length ≤ 100000 ∧ 1 ≤ X.n ∧ QS .next m σ') :
    Xs X (exec (.Assign [.Subscript o i pos'] value pos) X.env) m σ EQ QS := .setItem (κ := List Int) hc h
end
open PySem PySem.W PySem.Calls PyProof.Rows PySem.SeqAt
/-- a tuple of the text, under a name of the module -/
structure GlT (K : Frag) (x : Str) (l : List AV) : Prop where
  at_ : ∃ a items, nsIn K mainGlobals x = some (some (.ref a)) ∧ ∀ h, K.In h → IsTup h a (List.toArray items) ∧ VRs h l items
theorem GlT.strs {K : Frag} {x : Str} {a : Addr} {o : Obj} {vs : List Value} {n : Nat} {l : List AV} (e : nsIn K mainGlobals x = some (some (.ref a))) (ho : K.lookup a = some o) (hc : o.cls = .type "tuple") (hd : o.data = .seq vs.toArray n)
    (z : ∀ h, VRs h l vs) : GlT K x l := ⟨a, vs, e, fun h X => ⟨⟨o, X _ _ ho, hc, n, hd⟩, z h⟩⟩
section
variable {X : Fx} {m : Loc} {σ : Hp} {EQ : EPost} {Q : AV → Hp → Prop} {QS : AF → Loc → Hp → Prop} {QB : Bool → Hp → Prop}
theorem Ev.globT {x : Str} {l : List AV} {pos} (lk : Gb X.fd x) (e : GlT X.G.K x l) (q : Q (.tup l) σ) : Ev X (eval (.Name x pos) X.env) m σ EQ Q := by
  obtain ⟨a, items, e, t⟩ := e.at_
  intro s S
  obtain ⟨t1, t2⟩ := t _ S.kin
  have h' : Ev X (eval (.Name x pos) X.env) m σ EQ (fun av σ' => av = .ref a ∧ σ' = σ) := .glob lk e (fun _ => .refI) ⟨rfl, rfl⟩
  refine wpAny_mono (h' s S) (fun v s' ⟨av, σ', h1, h2, h3, h4, h5⟩ => ?_) fun _ _ e => e
  subst h4 h5
  obtain rfl := h1.refE
  exact ⟨.tup l, σ', .tupI (S.tups h3 _ _ t1) (S.vrs h3 t2), h2, h3, q⟩
theorem Op2.pow {a b : Int} (hn : 0 ≤ b) (hn2 : b ≤ 1000000) (ha : a.natAbs < 2 ^ 64) (q : Q (.int (a ^ b.toNat)) σ) : Op2 X m σ EQ (binaryOp .Pow) (.int a) (.int b) Q := by
  intro _ _ s S r₁ r₂; obtain ⟨t, rfl⟩ := r₁.intE; obtain ⟨u, rfl⟩ := r₂.intE; exact PyProof.Rows.pow_int_small hn hn2 ha (doneT S .intI q)
theorem Op2.itListNeg {value slice : Expr} {x : Addr} {l : List AV} {i : Int} {y : AV} (hs : plainSlice slice = true) (hm : (x, .list l) ∈ σ) (h0 : i < 0) (h1 : -(l.length : Int) ≤ i) (hhi : -(2 ^ 63) ≤ i) (hx : l[(i + l.length).toNat]? = some y) (q : Q y σ) :
    Op2 X m σ EQ (subscriptTail value slice) (.ref x) (.int i) Q := by
  intro _ _ s S r₁ r₂
  obtain rfl := r₁.refE
  obtain ⟨u, rfl⟩ := r₂.intE
  obtain ⟨is, ni, hi, z⟩ := S.hr.own _ hm
  obtain ⟨v, hv, r⟩ := z.get hx
  have hL : s.heap.IsList x is.toArray := ⟨_, hi, rfl, _, rfl⟩
  have hz : is.toArray.size = l.length := by simp [z.length]
  exact tail_any (A := X.A) hL.typeIs slot_list_getitem.lookup (wpAny_getItem_list_neg hL h0 (by rw [hz]; exact h1) hhi (by rw [hz]; simpa using hv) (done S r q)) (subscripted_plain hs _ _)
theorem Op2.lastList {value slice : Expr} {x : Addr} {l : List AV} {y : AV} (hs : plainSlice slice = true) (hm : (x, .list (l ++ [y])) ∈ σ) (hz : l.length < 2 ^ 60) (q : Q y σ) :
    Op2 X m σ EQ (subscriptTail value slice) (.ref x) (.int (-1)) Q :=
  .itListNeg hs hm (by decide) (by simp; omega) (by decide) (by
    have : (-1 + ((l ++ [y]).length : Int)).toNat = l.length := by simp; omega
    rw [this]; simp) q
theorem Cl.reverse {x : Addr} {l : List AV} {σ' : Hp} (u : UpdL x (.list l) (.list l.reverse) σ σ') (hz : l.length ≤ 100000) (q : Q .none σ') : Cl X m σ EQ (.oth (.builtin "list.reverse")) [.ref x] Q := .one fun v s S r => by
  obtain rfl := r.refE
  obtain ⟨is, ni, hi, z⟩ := S.hr.own _ u.mem
  refine call_meets PySem.F.slot_list_reverse ⟨_, hi, rfl⟩ PySem.F.entry_list_reverse (PySem.F.args_list_reverse_1 _) (AutoListH.list_reverse_list_0 x is.toArray ni (by simp [z.length]; have := sizeLine_big; omega)) ⟨hi, ?_⟩
  have rv : VRs s.heap l.reverse is.reverse := by
    clear hi u
    induction l generalizing is with
    | nil => obtain rfl := z.nilE; exact .nil
    | cons a l ih =>
      obtain ⟨v, r, rfl, h1, h2⟩ := z.consE
      rw [List.reverse_cons, List.reverse_cons]
      exact (ih (by simp at hz; omega) r h2).append (.one h1)
  have P := updList (tk := s.toks) (f := fun xs => xs.reverse) S u hi (by simpa using rv)
  exact doneH P .noneI q
/-! a tuple, sought among the text keys of a dict: never there -/
end
section
variable {prog : Program} {w : World} {A : Around} {E : Value → Shared → Prop} {s : Shared}
end
section
variable {X : Fx} {m : Loc} {σ : Hp} {EQ : EPost} {Q : AV → Hp → Prop}
end
open PySem PySem.W PySem.Calls PyProof.Rows PySem.SeqAt
section
variable {X : Fx} {m : Loc} {σ : Hp} {EQ : EPost} {Q : AV → Hp → Prop} {QS : AF → Loc → Hp → Prop} {QB : Bool → Hp → Prop}
theorem seqIndex_nat {i n : Nat} (h : i < n) : seqIndex? (i : Int) n = some i := by
  unfold seqIndex?
  simp
  omega
theorem Op2.itT0 {value slice : Expr} {a : AV} {l : List AV} (hs : plainSlice slice = true) (q : Q a σ) : Op2 X m σ EQ (subscriptTail value slice) (.tup (a :: l)) (.int 0) Q :=
  .itTup (j := 0) hs (by decide) (by decide) (seqIndex_nat (i := 0) (by simp)) rfl q
theorem Op2.itT1 {value slice : Expr} {a b : AV} {l : List AV} (hs : plainSlice slice = true) (q : Q b σ) : Op2 X m σ EQ (subscriptTail value slice) (.tup (a :: b :: l)) (.int 1) Q :=
  .itTup (j := 1) hs (by decide) (by decide) (seqIndex_nat (i := 1) (by simp)) rfl q
theorem Op2.itT2 {value slice : Expr} {a b c : AV} {l : List AV} (hs : plainSlice slice = true) (q : Q c σ) : Op2 X m σ EQ (subscriptTail value slice) (.tup (a :: b :: c :: l)) (.int 2) Q :=
  .itTup (j := 2) hs (by decide) (by decide) (seqIndex_nat (i := 2) (by simp)) rfl q
/-- k in a tuple of texts: told by its texts -/
theorem Op2.inT {k : AV} {l : List AV} {n n' : Nat} {b : Bool} (hk : k.pl n' = true) (hl : pls n l = true) (hn : n + 1 ≤ 5 * X.n + 20) (e : (l.any fun y => y.eqv k) = b) (q : Q (.bool b) σ) : Op2 X m σ EQ (compareOp .In) k (.tup l) Q := .inTup hk hl hn (e ▸ q)
end
open PySem PySem.W PySem.Calls PyProof.Rows PySem.SeqAt
theorem getN_pad (names : List Str) (vals : List (Option AV)) (k : Nat) (x : Str) : getN names (vals ++ List.replicate k none) x = getN names vals x := by
  unfold getN
  cases names.findIdx? (· == x) with
  | none => rfl
  | some i =>
    show ((vals ++ List.replicate k none)[i]?).join = (vals[i]?).join
    by_cases h : i < vals.length
    · rw [List.getElem?_append_left h]
    · rw [List.getElem?_append_right (by omega), List.getElem?_eq_none (by omega : vals.length ≤ i)]
      cases q : (List.replicate k (none : Option AV))[i - vals.length]? with
      | none => rfl
      | some o =>
        have := List.mem_of_getElem? q
        rw [List.mem_replicate] at this
        rw [this.2]; rfl
theorem St.pad {X : Fx} {m : Loc} {σ : Hp} {s : Shared} (k : Nat) (S : St X m σ s) : St X (m ++ List.replicate k none) σ s := by
  obtain ⟨mr, hn, hm⟩ := S.ns
  exact ⟨S.ok, S.hr, ⟨mr, hn, fun x => by rw [getN_pad]; exact hm x⟩, S.noL, S.newL, S.gens, S.os, S.frs⟩
noncomputable def padL (args : List AV) (ls : List Str) : Loc := args.map some ++ List.replicate ls.length none
theorem CallOk.go'' {G : Gl} {n : Nat} {a : Addr} {fd : FuncData} {ps ls' gs : List Str} {body : List Stmt} {args : List AV} {σ : Hp} {Q : AV → Hp → Prop} (F : FnIn G.K a fd ps ls' gs body) (g : GOk G) (hl : args.length = ps.length)
    (h : ∀ X : Fx, X.G = G → X.n = n → Lcs X.fd 0 (ps ++ ls') → Gbs X.fd gs → Xs X (execs body X.env) (padL args ls') σ NoE (retX Q)) : CallOk G (n + 1) (.ref a) args σ Q :=
  .go F g hl fun fd' L A h1 h2 => fun s S => h (.mk0 G fd' L a A n none) rfl rfl h1 h2 s (S.pad _)
section
variable {κ : Type} [DecidableEq κ]
theorem aget_none {kvs : List (κ × AV)} {k : κ} (h : k ∉ kvs.map (·.1)) : aget kvs k = none := by
  unfold aget
  rw [List.find?_eq_none.mpr]; · rfl
  intro x hx e
  exact h (by have : x.1 = k := by simpa using e
              rw [← this]; exact List.mem_map_of_mem hx)
theorem aput_new {kvs : List (κ × AV)} {k : κ} {v : AV} (h : k ∉ kvs.map (·.1)) : aput kvs k v = kvs ++ [(k, v)] := by
  unfold aput
  rw [if_neg]
  rw [List.any_eq_true]
  rintro ⟨x, hx, e⟩
  exact h (by have : x.1 = k := by simpa using e
              rw [← this]; exact List.mem_map_of_mem hx)
theorem aget_at {L : List (κ × AV)} (nd : (L.map (·.1)).Nodup) {i : Nat} {k : κ} {v : AV} (h : L[i]? = some (k, v)) : aget L k = some v := by
  induction L generalizing i with
  | nil => simp at h
  | cons p L ih =>
    simp only [List.map_cons, List.nodup_cons] at nd
    unfold aget
    cases i with
    | zero =>
      simp at h; subst h
      simp
    | succ i =>
      have hm : (k, v) ∈ L := List.mem_of_getElem? (by simpa using h)
      have : p.1 ≠ k := by rintro rfl; exact nd.1 (List.mem_map_of_mem (f := (·.1)) hm)
      rw [List.find?_cons, decide_eq_false this]
      exact ih nd.2 (by simpa using h)
theorem take_succ_eq {α : Type} {L : List α} {i : Nat} {a : α} (h : L[i]? = some a) : L.take (i + 1) = L.take i ++ [a] := by
  rw [List.take_add_one, h]; rfl
end
open PySem PySem.W PySem.Calls PyProof.Rows PySem.SeqAt
theorem UpdL.app {a : Addr} {o o' : AO} {l r r' : Hp} (u : UpdL a o o' r r') : UpdL a o o' (l ++ r) (l ++ r') := by
  induction l with
  | nil => exact u
  | cons p l ih => exact .there ih
theorem Le.skip {p : Addr × AO} {a b : Hp} (h : Le a b) : Le (p :: a) (p :: b) := by
  obtain ⟨t, q⟩ := h; exact ⟨t, q.cons p⟩
theorem Le.cut {p : Addr × AO} {a b : Hp} (h : Le a b) : Le a (p :: b) := by
  obtain ⟨t, q⟩ := h
  exact ⟨p :: t, (q.cons p).trans List.perm_middle.symm⟩
theorem Le.perm {a b : Hp} (h : b.Perm a) : Le a b := ⟨[], by simpa using h⟩
theorem Xs.le {X : Fx} {m : Loc} {σ : Hp} {EQ : EPost} {t : Sem Flow} {QS : AF → Loc → Hp → Prop} {σ₁ : Hp} (l : Le σ₁ σ) (h : Xs X t m σ₁ EQ QS) : Xs X t m σ EQ QS := h.drop l
theorem CallOk.weak {G : Gl} {n : Nat} {f : Value} {args : List AV} {σ : Hp} {Q : AV → Hp → Prop} (h : CallOk G n f args σ fun a σ' => ∃ σ'', Le σ'' σ' ∧ Q a σ'') : CallOk G n f args σ Q := by
  intro A hr s vals H h1 h2 h3 h4
  refine codeAny_mono (h A hr s vals H h1 h2 h3 h4) ?_
  rintro r s' ⟨v, a, σ', e, rv, Hf, C, gf, of, σ'', l, q⟩
  exact ⟨v, a, σ'', e, rv, ⟨fun p hp => Hf.own p (l.sub p hp), l.nd Hf.nd, Hf.base, fun p hp => Hf.apart p (l.sub p hp), fun p hp => Hf.lo p (l.sub p hp)⟩,
    ⟨C.keep, fun b hb => C.new b (by obtain ⟨p, hp, rfl⟩ := List.mem_map.mp hb; exact List.mem_map_of_mem (l.sub p hp))⟩, gf, of, q⟩
/-- a class call -/
structure ClsIn (K : Frag) (C fI : Addr) : Prop where
  make : makesIn K C = true
  init : findIn K (.ref C) "__init__" = some (some (.ref fI))
  fn : typeIn K (.ref fI) = some (.type "function")
theorem CallOk.make' {G : Gl} {n : Nat} {C fI : Addr} {args : List AV} {σ : Hp} {Q : AV → Hp → Prop} (names : List Str) (g : GOk G) (c : ClsIn G.K C fI)
    (h : ∀ x dx, CallOk G n (.ref fI) (.ref x :: args) ((x, .inst C dx) :: (dx, .ns names []) :: σ) fun v σ' => v = .none ∧ Q (.ref x) σ') : CallOk G (n + 1) (.ref C) args σ Q :=
  .make (names := names) g c.make c.init c.fn fun x dx _ _ => h x dx
section
variable {I : Nat → Loc → Hp → Prop} {i : Nat} {QS : AF → Loc → Hp → Prop} {m : Loc} {σ : Hp}
theorem turnX_b (h : QS .next m σ) : turnX I i QS .brk m σ := h
end
open PySem
/-! the parser as a machine -/
inductive Tr where
  | num (k : Int) | un (f : Int) (x : Tr) | bin (f : Int) (l r : Tr)
noncomputable def Tr.av : Tr → AV
  | .num k => .tup [.str "i", .int k]
  | .un f x => .tup [.str "s", .int f, .tup [x.av]]
  | .bin f l r => .tup [.str "s", .int f, .tup [l.av, r.av]]
inductive Tk where
  | int (k : Int) | op (j : Nat) | fin
structure OpE where
  nm : Nat → Str
  num : Nat → Int
  fn : Nat → Int
  lev : Nat → Int
  fix : Nat → Str
  lft : Nat → Int
  rgt : Nat → Int
  inf : Nat → Bool
structure Fm where
  f : Int
  lv : Int
  lim : Int
  left : Option Tr
noncomputable def Fm.redu (f : Fm) (t : Tr) : Tr := match f.left with
  | none => .un f.f t
  | some l => .bin f.f l t
structure PSt where
  pl : Nat
  lim : Int
  term : Tr
  pr : Int
  fs : List Fm
noncomputable def blocked (tok : Nat → Option Tk) (O : OpE) (s : PSt) : Prop := tok s.pl = some .fin ∨ ∃ j, tok s.pl = some (.op j) ∧ ¬ (O.lev j ≤ s.lim ∧ s.pr ≤ O.lft j)
inductive Run (tok : Nat → Option Tk) (O : OpE) : Nat → PSt → PSt → Prop
  | fin {s : PSt} : blocked tok O s → s.fs = [] → Run tok O 1 s s
  | red {n : Nat} {pl : Nat} {lim : Int} {term : Tr} {pr : Int} {f : Fm} {fs : List Fm} {r : PSt} : blocked tok O ⟨pl, lim, term, pr, f :: fs⟩ → Run tok O n ⟨pl, f.lim, f.redu term, f.lv, fs⟩ r → Run tok O (n + 1) ⟨pl, lim, term, pr, f :: fs⟩ r
  | shift {n : Nat} {s : PSt} {j : Nat} {k : Int} {r : PSt} : tok s.pl = some (.op j) → O.inf j = true → O.lev j ≤ s.lim → s.pr ≤ O.lft j → tok (s.pl + 1) = some (.int k) →
      Run tok O n ⟨s.pl + 2, O.rgt j, .num k, 0, ⟨O.fn j, O.lev j, s.lim, some s.term⟩ :: s.fs⟩ r → Run tok O (n + 2) s r
  | post {n : Nat} {s : PSt} {j : Nat} {r : PSt} : tok s.pl = some (.op j) → O.inf j = false → O.lev j ≤ s.lim → s.pr ≤ O.lft j → Run tok O n ⟨s.pl + 1, s.lim, .un (O.fn j) s.term, O.lev j, s.fs⟩ r → Run tok O (n + 1) s r
open PySem PySem.W PySem.Calls PyProof.Rows PySem.SeqAt
theorem le_n {n k x : Nat} (h : x = k) (d : n ≤ k) : n ≤ x := h ▸ d
section
variable {X : Fx} {m : Loc} {σ : Hp} {EQ : EPost} {Q : AV → Hp → Prop} {QS : AF → Loc → Hp → Prop}
theorem unpL {a : AV} {l : List AV} {elts : List Expr} {m' : Loc} (e : a = .tup l) (u : UnpN X elts l m m') (q : QS .next m' σ) : ∃ l m', a = .tup l ∧ UnpN X elts l m m' ∧ QS .next m' σ := ⟨l, m', e, u, q⟩
theorem Op2.itDS {value slice : Expr} {d : Addr} {kvs : List (Str × AV)} {k : Str} {a : AV} (hs : plainSlice slice = true) (hn : 1 ≤ X.n) (hm : (d, .dS kvs) ∈ σ) (hg : aget kvs k = some a) (q : Q a σ) :
    Op2 X m σ EQ (subscriptTail value slice) (.ref d) (.str k) Q := .itDict (κ := Str) hs hn hm hg q
theorem Op2.inDI {d : Addr} {kvs : List (Int × AV)} {k : Int} {b : Bool} (hn : 1 ≤ X.n) (hm : (d, .dI kvs) ∈ σ) (e : (aget kvs k).isSome = b) (q : Q (.bool b) σ) : Op2 X m σ EQ (compareOp .In) (.int k) (.ref d) Q := .inDict (κ := Int) hn hm (e ▸ q)
end
/-! displays of constants -/
noncomputable def getC : Expr → Const × Nat × Pos
  | .Constant c k pos => (c, k, pos)
  | _ => (.none, 0, ⟨0, 0, 0, 0⟩)
noncomputable def getT : Expr → List Expr × Nat × Pos
  | .Tuple es k pos => (es, k, pos)
  | _ => ([], 0, ⟨0, 0, 0, 0⟩)
noncomputable def mkC (c : Const × Nat × Pos) : Expr := .Constant c.1 c.2.1 c.2.2
noncomputable def mkT (c : List Expr × Nat × Pos) : Expr := .Tuple c.1 c.2.1 c.2.2
noncomputable def cAV : Const → Option AV
  | .str s => some (.str s)
  | .int i => some (.int i)
  | _ => none
section
variable {X : Fx} {m : Loc} {σ : Hp} {EQ : EPost} {Q : AV → Hp → Prop}
theorem Ev.const {c : Const} {k : Nat} {pos : Pos} {a : AV} (h : cAV c = some a) (q : Q a σ) : Ev X (eval (.Constant c k pos) X.env) m σ EQ Q := by
  cases c with
  | str s => cases h; exact .str q
  | int i => cases h; exact .int q
  | _ => cases h
theorem EvL.consts : ∀ {es : List Expr} {l : List AV} {P : List AV → Hp → Prop}, es.map (fun e => mkC (getC e)) = es → es.map (fun e => cAV (getC e).1) = l.map some → P l σ → EvL X es m σ EQ P
  | [], [], _, _, _, q => q
  | e :: r, a :: l, P, h1, h2, q => by
    obtain ⟨g1, g2⟩ := List.cons.inj h1
    obtain ⟨f1, f2⟩ := List.cons.inj h2
    show Ev X (eval e X.env) m σ EQ _
    rw [← g1]
    exact .const f1 (EvL.consts (P := fun l σ => P (a :: l) σ) g2 f2 q)
theorem Ev.lits0 {es : List Expr} {k : Nat} {pos : Pos} (l : List AV) (hs : noStar es = true) (hz : es.length ≤ 100) (h1 : es.map (fun e => mkC (getC e)) = es) (h2 : es.map (fun e => cAV (getC e).1) = l.map some) (q : Q (.tup l) σ) : Ev X (eval (.Tuple es k pos) X.env) m σ EQ Q := .tuple hs hz (EvL.consts h1 h2 q)
/-- a tuple of tuples of constants -/
theorem EvL.tups : ∀ {es : List Expr} {l : List (List AV)} {P : List AV → Hp → Prop}, es.map (fun e => mkT ((getT e).1.map (fun e => mkC (getC e)), (getT e).2)) = es → es.map (fun e => (getT e).1.map fun e => cAV (getC e).1) = l.map (·.map some) → (es.all fun e => noStar (getT e).1 && Nat.ble (getT e).1.length 100) = true → P (l.map .tup) σ → EvL X es m σ EQ P
  | [], [], _, _, _, _, q => q
  | e :: r, a :: l, P, h1, h2, h3, q => by
    obtain ⟨g1, g2⟩ := List.cons.inj h1
    obtain ⟨f1, f2⟩ := List.cons.inj h2
    obtain ⟨d1, d2⟩ := Bool.and_eq_true_iff.mp (show ((noStar (getT e).1 && Nat.ble (getT e).1.length 100) && r.all _) = true from h3)
    obtain ⟨d3, d4⟩ := Bool.and_eq_true_iff.mp d1
    have k1 : (getT e).1.map (fun e => mkC (getC e)) = (getT e).1 := congrArg (fun x => (getT x).1) g1
    have g0 : mkT (getT e) = e := by
      have : mkT ((getT e).1.map (fun e => mkC (getC e)), (getT e).2) = e := g1
      rwa [k1] at this
    show Ev X (eval e X.env) m σ EQ _
    rw [← g0]
    exact .lits0 a d3 (Nat.le_of_ble_eq_true d4) k1 f1 (EvL.tups (P := fun l σ => P (.tup a :: l) σ) g2 f2 d2 q)
theorem Ev.lits1 {es : List Expr} {k : Nat} {pos : Pos} (l : List (List AV)) (hs : noStar es = true) (hz : es.length ≤ 100) (h1 : es.map (fun e => mkT ((getT e).1.map (fun e => mkC (getC e)), (getT e).2)) = es) (h2 : es.map (fun e => (getT e).1.map fun e => cAV (getC e).1) = l.map (·.map some)) (h3 : (es.all fun e => noStar (getT e).1 && Nat.ble (getT e).1.length 100) = true) (q : Q (.tup (l.map .tup)) σ) :
    Ev X (eval (.Tuple es k pos) X.env) m σ EQ Q := .tuple hs hz (EvL.tups h1 h2 h3 q)
end
open PySem PySem.W PySem.Calls PyProof.Rows PySem.SeqAt
/-! an exception on its way through the frames l, above the heap B; its own dict lies at dx -/
noncomputable def FlU (B : Heap) (l : List Env) (C dx e : Addr) (h : Heap) : Prop :=
  B.StaysIn h ∧ B.get? e = none ∧ h.FunFrames B l ∧ ∃ oe vs, h.get? e = some oe ∧ oe.cls = .ref C ∧ oe.dict = some dx ∧ oe.data = .fields vs ∧ vs[1]? = some .none
noncomputable def FlT (fl : Value) (B : Heap) (l : List Env) (C dx e : Addr) (h : Heap) : Prop :=
  B.StaysIn h ∧ B.get? e = none ∧ h.FunFrames B l ∧ ∃ oe vs T oT ts, h.get? e = some oe ∧ oe.cls = .ref C ∧ oe.dict = some dx ∧ oe.data = .fields vs ∧ vs[1]? = some (.ref T) ∧
    B.get? T = none ∧ T ≠ e ∧ h.get? T = some oT ∧ oT.data = .fields ts ∧ ts[3]? = some fl
theorem mapFields_dict (f : Array Value → Array Value) (o : Obj) : (Obj.mapFields f o).dict = o.dict := by
  obtain ⟨c, d, dt, sl⟩ := o
  cases dt <;> rfl
section
variable {M : Model} {A : Around} {E : Value → Shared → Prop} {s : Shared} {B : Heap} {env : Env} {outer : List Env} {L C dx e : Addr} {Q : Unit → Shared → Prop}
theorem fl_entry {oe : Obj} {vs : Array Value} {head : Value} {hadNext : Bool} (hfr : A.frames = some (env :: outer)) (hl : s.heap.FunFrames B (env :: outer)) (hf : env.frame = some L)
    (he : s.heap.get? e = some oe) (hB : B.StaysIn s.heap) (hen : B.get? e = none) (hc : oe.cls = .ref C) (hdi : oe.dict = some dx) (hd : oe.data = .fields vs) (hsz : 1 < vs.size)
    (h : ∀ h', FlT (rawInt L) B (env :: outer) C dx e h' → s.heap.UpToSlots h' → Q () { s with heap := h' }) :
    wpAny M A (do let a ← frameOf env; let pl ← entryPlaceOf L hadNext; let b ← EntryCells.newEntry head a .none (rawInt L) .none pl; setField (.ref e) 1 b) Q E s := by
  refine wpAny_bind (wpAny_frameOf_fun hfr hl hf fun h₁ hs => wpAny_bind (wpAny_entryPlaceOf fun pl hpl => ?_))
  unfold EntryCells.newEntry newFields
  refine wpAny_bind (wpAny_newObj_type ?_ (hpl.sizeOk5 _ _ _ _ _))
  generalize hto : ({ cls := .type "traceback", dict := none, data := .fields ([head, .ref L, .none, rawInt L, .none] ++ (if pl.isEmpty then List.replicate 6 Value.none else pl)).toArray } : Obj) = to
  have he' : e ∉ (env :: outer).filterMap (·.frame) := fun hm => by
    obtain ⟨_, o, ho, hn⟩ := hl.mem hm
    rw [he] at ho; cases ho; exact hn vs hd
  have e1 : h₁.get? e = some oe := (hs.2.1 e he').trans he
  have B1 : B.StaysIn h₁ := fun b o hb => (hs.2.1 b fun hm => by rw [(hl.mem hm).1] at hb; cases hb).trans (hB b o hb)
  have hne : h₁.objs.size ≠ e := Nat.ne_of_gt (Heap.lt_size e1)
  have e2 : (h₁.push to).get? e = some oe := Heap.get?_push_of_some _ e1
  refine wpAny_setField e2 hd hsz (h _ ?_ ?_)
  · have hd3 := Obj.data_mapFields hd (·.setIfInBounds 1 (Value.ref h₁.objs.size))
    have keep : ∀ b o, b ≠ e → h₁.get? b = some o → ((h₁.push to).update e (Obj.mapFields (·.setIfInBounds 1 (Value.ref h₁.objs.size)))).get? b = some o := fun b o hb hbo =>
      (Heap.get?_update_other _ _ (Ne.symm hb)).trans (Heap.get?_push_of_some _ hbo)
    refine ⟨fun b o hb => keep b o (fun q => by rw [q, hen] at hb; cases hb) (B1 b o hb), hen, hl.of_keeps fun b o hb hn => ?_, ?_⟩
    · obtain ⟨sl, hq⟩ := hs.2.2 b o hb
      exact ⟨_, keep b _ (fun q => by rw [q, he] at hb; cases hb; exact hn vs hd) hq, rfl⟩
    · refine ⟨_, _, h₁.objs.size, to, _, Heap.get?_update_self _ e2 (Obj.isFreed_of_fields hd3), (Obj.cls_mapFields _ _).trans hc, (mapFields_dict _ _).trans hdi, hd3, by simp [hsz], B1.fresh, hne,
        (Heap.get?_update_other _ _ (Ne.symm hne)).trans (Heap.get?_push_size h₁ (by subst hto; rfl)), by subst hto; rfl, ?_⟩
      first
        | (simp; done)
        | (rcases hpl with rfl | ⟨_, _, _, _, _, _, _, rfl⟩ <;> simp)
  · intro b o hb hn
    obtain ⟨sl, hq⟩ := hs.2.2 b o hb
    exact ⟨sl, (Heap.get?_update_other _ _ fun q => by subst q; rw [he] at hb; cases hb; exact hn vs hd).trans (Heap.get?_push_of_some _ hq)⟩
theorem fl_note_first (hfr : A.frames = some (env :: outer)) (hf : env.frame = some L) (F : FlU B (env :: outer) C dx e s.heap)
    (h : ∀ h', FlT (rawInt L) B (env :: outer) C dx e h' → s.heap.UpToSlots h' → Q () { s with heap := h' }) : wpAny M A (noteFrame (.ref e) env) Q E s := by
  obtain ⟨a1, a2, a3, oe, vs, he, hc, hdi, hd, h1⟩ := F
  unfold noteFrame
  simp only [hf]
  refine wpAny_bind (wpAny_field he hd h1 ?_)
  rw [if_neg (by decide)]
  exact fl_entry hfr a3 hf he a1 a2 hc hdi hd (Array.getElem?_eq_some_iff.mp h1).1 h
theorem fl_note_next (hfr : A.frames = some (env :: outer)) (hf : env.frame = some L) (F : FlT .none B (env :: outer) C dx e s.heap)
    (h : ∀ h', FlT (rawInt L) B (env :: outer) C dx e h' → s.heap.UpToSlots h' → Q () { s with heap := h' }) : wpAny M A (noteFrame (.ref e) env) Q E s := by
  obtain ⟨a1, a2, a3, oe, vs, T, oT, ts, he, hc, hdi, hd, h1, hT1, hT2, hT, hdT, h3⟩ := F
  unfold noteFrame
  simp only [hf]
  refine wpAny_bind (wpAny_field he hd h1 ?_)
  rw [if_pos (show (Value.ref T != Value.none) = true from by simp)]
  refine wpAny_bind (wpAny_field hT hdT h3 ?_)
  rw [if_neg (show ¬ ((Value.none == rawInt L) = true) from by simp [rawInt])]
  refine wpAny_bind (wpAny_setField hT hdT (Array.getElem?_eq_some_iff.mp h3).1 ?_)
  have oth : ∀ b, b ≠ T → (s.heap.update T (Obj.mapFields (·.setIfInBounds 3 Value.none))).get? b = s.heap.get? b := fun b hb => Heap.get?_update_other _ _ (Ne.symm hb)
  have nT : ∀ b o, s.heap.get? b = some o → (∀ vs, o.data ≠ .fields vs) → b ≠ T := fun b o hb hn q => by subst q; rw [hT] at hb; cases hb; exact hn ts hdT
  refine fl_entry hfr (a3.of_keeps fun b o hb hn => ⟨o, (oth b (nT b o hb hn)).trans hb, rfl⟩) hf ((oth e (Ne.symm hT2)).trans he)
    (fun b o hb => (oth b fun q => by rw [q, hT1] at hb; cases hb).trans (a1 b o hb)) a2 hc hdi hd (Array.getElem?_eq_some_iff.mp h1).1 fun h' x1 x2 => h h' x1 fun b o hb hn => x2 b o ((oth b (nT b o hb hn)).trans hb) hn
theorem fl_note_again (hf : env.frame = some L) {l : List Env} (F : FlT (rawInt L) B l C dx e s.heap) (h : Q () s) : wpAny M A (noteFrame (.ref e) env) Q E s := by
  obtain ⟨a1, a2, a3, oe, vs, T, oT, ts, he, hc, hdi, hd, h1, hT1, hT2, hT, hdT, h3⟩ := F
  unfold noteFrame
  simp only [hf]
  refine wpAny_bind (wpAny_field he hd h1 ?_)
  rw [if_pos (show (Value.ref T != Value.none) = true from by simp)]
  refine wpAny_bind (wpAny_field hT hdT h3 ?_)
  rw [if_pos (show (rawInt L == rawInt L) = true from by simp)]
  exact wpAny_pure h
theorem fl_set {fl : Value} {l : List Env} {fr : Option Addr} (F : FlT fl B l C dx e s.heap)
    (h : ∀ h', FlT (fr.elim .none fun f => rawInt f) B l C dx e h' → s.heap.UpToSlots h' → Q () { s with heap := h' }) : wpAny M A (setFlight (.ref e) fr) Q E s := by
  obtain ⟨a1, a2, a3, oe, vs, T, oT, ts, he, hc, hdi, hd, h1, hT1, hT2, hT, hdT, h3⟩ := F
  have hsz : 3 < ts.size := (Array.getElem?_eq_some_iff.mp h3).1
  unfold setFlight
  refine wpAny_bind (wpAny_field he hd h1 ?_)
  rw [if_pos (show (Value.ref T != Value.none) = true from by simp)]
  have oth : ∀ b, b ≠ T → (s.heap.update T (Obj.mapFields (·.setIfInBounds 3 (fr.elim Value.none fun f => rawInt f)))).get? b = s.heap.get? b := fun b hb => Heap.get?_update_other _ _ (Ne.symm hb)
  have nT : ∀ b o, s.heap.get? b = some o → (∀ vs, o.data ≠ .fields vs) → b ≠ T := fun b o hb hn q => by subst q; rw [hT] at hb; cases hb; exact hn ts hdT
  have hd3 := Obj.data_mapFields hdT (·.setIfInBounds 3 (fr.elim Value.none fun f => rawInt f))
  refine wpAny_setField hT hdT hsz (h _ ⟨fun b o hb => (oth b fun q => by rw [q, hT1] at hb; cases hb).trans (a1 b o hb), a2, a3.of_keeps fun b o hb hn => ⟨o, (oth b (nT b o hb hn)).trans hb, rfl⟩,
    oe, vs, T, _, _, (oth e (Ne.symm hT2)).trans he, hc, hdi, hd, h1, hT1, hT2, Heap.get?_update_self _ hT (Obj.isFreed_of_fields hd3), hd3, by simp [hsz]⟩ fun b o hb hn => ⟨o.slots, (oth b (nT b o hb hn)).trans hb⟩)
/-- somewhere in the frame env, whose dict lies at L -/
noncomputable def FlA (B : Heap) (env : Env) (outer : List Env) (L C dx e : Addr) (h : Heap) : Prop := FlU B (env :: outer) C dx e h ∨ FlT .none B (env :: outer) C dx e h ∨ FlT (rawInt L) B (env :: outer) C dx e h
theorem fl_note (hfr : A.frames = some (env :: outer)) (hf : env.frame = some L) (F : FlA B env outer L C dx e s.heap)
    (h : ∀ h', FlT (rawInt L) B (env :: outer) C dx e h' → s.heap.UpToSlots h' → Q () { s with heap := h' }) : wpAny M A (noteFrame (.ref e) env) Q E s := by
  rcases F with F | F | F
  · exact fl_note_first hfr hf F h
  · exact fl_note_next hfr hf F h
  · exact fl_note_again hf F (h _ F (.refl _))
theorem fl_leave (hfr : A.frames = some (env :: outer)) (hf : env.frame = some L) (F : FlA B env outer L C dx e s.heap)
    (h : ∀ h', FlT .none B outer C dx e h' → s.heap.UpToSlots h' → Q () { s with heap := h' }) : wpAny M A (leaving env (.ref e)) Q E s := by
  unfold leaving
  refine wpAny_bind (fl_note hfr hf F fun h₁ F₁ u₁ => fl_set F₁ fun h₂ F₂ u₂ => ?_)
  obtain ⟨a1, a2, ⟨_, _, a3⟩, a4⟩ := F₂
  exact h h₂ ⟨a1, a2, a3, a4⟩ (u₁.trans u₂)
/-- behind code of the frame's own -/
theorem fl_back (hf : env.frame = some L) (F : FlT (rawInt L) B (env :: outer) C dx e s.heap) {E' : Value → Shared → Prop}
    (h : ∀ h', FlT (rawInt L) B (env :: outer) C dx e h' → s.heap.UpToSlots h' → E' (.ref e) { s with heap := h' }) : cameBackBy M A env E' (.ref e) s := by
  unfold cameBackBy
  have F0 := F
  obtain ⟨a1, a2, a3, oe, vs, T, oT, ts, he, hc, hdi, hd, h1, hT1, hT2, hT, hdT, h3⟩ := F0
  refine wpAny_bind (wpAny_field he hd h1 ?_)
  rw [if_neg (show ¬ ((Value.ref T == Value.none) = true) from by simp)]
  rw [hf]
  exact fl_set (fr := some L) F fun h1 x1 x2 => h h1 x1 x2
end
open PySem PySem.W PySem.Calls PyProof.Rows PySem.SeqAt
noncomputable abbrev Pst := List Env × List Addr × Heap
/-- what a call that raises keeps: of what nobody owned, in B; the frames' own names, in h -/
structure FrB (W0 : Heap) (p : Pst) (σ : Hp) (B h : Heap) : Prop where
  fr : ∀ e ∈ p.1, e.scope.kind ≠ .module ∧ ∃ L o o', e.frame = some L ∧ W0.get? L = none ∧ L ∉ p.2.1 ∧ p.2.2.get? L = some o ∧ h.get? L = some o' ∧ o'.data = o.data ∧ ∃ es n, o.data = .dict es n
  keep : ∀ b o, b ∉ p.2.1 → (∀ e ∈ p.1, e.frame ≠ some b) → p.2.2.get? b = some o → B.get? b = some o
  new : ∀ b ∈ σ.map (·.1), b ∈ p.2.1 ∨ p.2.2.get? b = none
/-- an exception of the class C has been raised -/
inductive RxE (G : Gl) (p : Pst) (F : Heap → Addr → Addr → Heap → Prop) (EQ : Addr → Hp → Prop) (e : Value) (h' : Heap) : Prop
  | mk (x dx : Addr) (σ' : Hp) (B : Heap) : e = .ref x → 2 ≤ x → EQ dx σ' → HRel G σ' B → F B dx x h' → FrB G.W0 p σ' B h' → RxE G p F EQ e h'
structure RxA (G : Gl) (p : Pst) (F : Heap → Addr → Addr → Heap → Prop) (EQ : Addr → Hp → Prop) (e : Value) (s' : Shared) : Prop where
  ex : RxE G p F EQ e s'.heap
  gens : s'.gens = #[]
  os : s'.os = G.os0
noncomputable def FrOk (W0 : Heap) (l : List Env) (σ : Hp) (h : Heap) : Prop := ∀ e ∈ l, e.scope.kind ≠ .module ∧ ∃ L o, e.frame = some L ∧ W0.get? L = none ∧ L ∉ σ.map (·.1) ∧ h.get? L = some o ∧ ∃ es n, o.data = .dict es n
/-- a call that raises -/
noncomputable def CallR (G : Gl) (n : Nat) (f : Value) (args : List AV) (σ : Hp) (C : Addr) (EQ : Addr → Hp → Prop) : Prop :=
  ∀ A, Rm A n → ∀ l, A.frames = some l → ∀ s vals, HRel G σ s.heap → s.gens = #[] → s.os = G.os0 → 2 ≤ s.heap.objs.size → FrOk G.W0 l σ s.heap → VRs s.heap args vals →
    codeAny (model G.prog G.w) A (.call f ⟨vals, []⟩) (fun r s' => ∃ e, r = .error e ∧ RxA G (l, σ.map (·.1), s.heap) (fun B dx x h => FlT .none B l C dx x h) EQ e s') s
theorem CallR.mono {G : Gl} {n k : Nat} {f : Value} {args : List AV} {σ : Hp} {C : Addr} {EQ : Addr → Hp → Prop} (h : CallR G n f args σ C EQ) (hk : n ≤ k) : CallR G k f args σ C EQ :=
  fun A r l hl s vals h1 h2 h3 h4 h5 h6 => h A (r.le hk) l hl s vals h1 h2 h3 h4 h5 h6
/-- what is so of a body's exceptions -/
noncomputable def ExB (X : Fx) (C : Addr) (PM : Loc → Prop) (EQ : Addr → Hp → Prop) : EPost := fun e s' =>
  (∃ p, X.R = some p ∧ RxA X.G p (fun B dx x h => FlA B X.env p.1 X.L C dx x h) EQ e s') ∧ ∃ m, PM m ∧ NsR s'.heap X.L X.names m
theorem ORel.there {G : Gl} {h : Heap} {a : Addr} {o : AO} (r : ORel G h a o) : ∃ ob, h.get? a = some ob := by
  cases o with
  | list l => obtain ⟨i, n, x, y⟩ := r; exact ⟨_, x⟩
  | dS l => obtain ⟨i, ⟨o, es, ep, x, y⟩, z⟩ := r; exact ⟨_, x⟩
  | dI l => obtain ⟨i, ⟨o, es, ep, x, y⟩, z⟩ := r; exact ⟨_, x⟩
  | dT l => obtain ⟨i, ⟨o, es, ep, x, y⟩, z⟩ := r; exact ⟨_, x⟩
  | inst C dx => exact ⟨_, r⟩
  | ns n v => obtain ⟨o, es, ep, x, y⟩ := r; exact ⟨_, x⟩
  | rng x y => obtain ⟨t, u, v, q⟩ := r; exact ⟨_, q⟩
  | exc C dx => obtain ⟨t, q⟩ := r; exact ⟨_, q⟩
  | held C dx => obtain ⟨o, vs, q, z⟩ := r; exact ⟨_, q⟩
  | cell v => obtain ⟨o, w, q, z⟩ := r; exact ⟨_, q⟩
theorem tups_upto {h h' : Heap} (u : h.UpToSlots h') : ∀ a items, IsTup h a items → IsTup h' a items := by
  rintro a items ⟨o, ho, hc, n, hd⟩
  obtain ⟨sl, hs⟩ := u a o ho (fun vs q => by rw [hd] at q; cases q)
  exact ⟨_, hs, hc, n, hd⟩
theorem NsR.data {h h' : Heap} {L : Addr} {names : List Str} {m : Loc} (r : NsR h L names m) (k : ∀ a items, IsTup h a items → IsTup h' a items)
    (hd : ∀ o, h.get? L = some o → ∃ o', h'.get? L = some o' ∧ o'.data = o.data) : NsR h' L names m := by
  obtain ⟨mr, ⟨o, es, ep, x, y, z⟩, w⟩ := r
  obtain ⟨o', x', y'⟩ := hd o x
  exact ⟨mr, ⟨o', es, ep, x', y'.trans y, z⟩, fun q => (w q).keep k⟩
theorem NsR.upto {h h' : Heap} {L : Addr} {names : List Str} {m : Loc} (r : NsR h L names m) (u : h.UpToSlots h') : NsR h' L names m := by
  refine r.data (tups_upto u) fun o ho => ?_
  obtain ⟨mr, ⟨o', es, ep, x, y, z⟩, w⟩ := r
  rw [ho] at x; cases x
  obtain ⟨sl, hs⟩ := u L o ho (fun vs q => by rw [y] at q; cases q)
  exact ⟨_, hs, rfl⟩
theorem FrB.upto {W0 : Heap} {p : Pst} {σ : Hp} {B h h' : Heap} (F : FrB W0 p σ B h) (u : h.UpToSlots h') : FrB W0 p σ B h' := by
  refine ⟨fun e he => ?_, F.keep, F.new⟩
  obtain ⟨k, L, o, o', h1, h2, h3, h4, h5, h6, es, n, h7⟩ := F.fr e he
  obtain ⟨sl, hs⟩ := u L o' h5 (fun vs q => by rw [h6, h7] at q; cases q)
  exact ⟨k, L, o, _, h1, h2, h3, h4, hs, h6, es, n, h7⟩
section
variable {X : Fx} {m : Loc} {σ : Hp} {C : Addr} {PM : Loc → Prop} {EQ : Addr → Hp → Prop} {Q : AV → Hp → Prop} {QS : AF → Loc → Hp → Prop}
theorem St.envFrame {s : Shared} (S : St X m σ s) {p : Pst} (hp : X.R = some p) : X.env.frame = some X.L := (S.ok.frm p hp).2.2
theorem St.dict {s : Shared} (S : St X m σ s) : ∃ o es n, s.heap.get? X.L = some o ∧ o.data = .dict es n := by
  obtain ⟨mr, ⟨o, es, ep, x, y, z⟩, w⟩ := S.ns
  exact ⟨o, es, ep, x, y⟩
theorem St.kindM {s : Shared} (S : St X m σ s) : X.env.scope.kind ≠ .module := by
  show X.fd.scope.kind ≠ .module
  rw [S.ok.kind]; decide
/-- the frames of a callee -/
theorem St.frOk {s : Shared} (S : St X m σ s) {p : Pst} (hp : X.R = some p) : FrOk X.G.W0 (X.env :: p.1) σ s.heap := by
  intro e he
  rcases List.mem_cons.mp he with rfl | he
  · obtain ⟨o, es, n, h1, h2⟩ := S.dict
    exact ⟨S.kindM, X.L, o, S.envFrame hp, S.newL, S.noL, h1, es, n, h2⟩
  · obtain ⟨k, L, o, o', h1, h2, h3, h4, h5, h6, es, n, h7⟩ := (S.frs p hp).fr e he
    refine ⟨k, L, o', h1, h2, fun q => ?_, h5, es, n, h6.trans h7⟩
    rcases (S.frs p hp).new L q with q | q
    · exact h3 q
    · rw [h4] at q; cases q
/-- behind a callee that raised -/
theorem St.comp {s : Shared} (S : St X m σ s) {p : Pst} (hp : X.R = some p) {σ' : Hp} {B h' : Heap} (F : FrB X.G.W0 (X.env :: p.1, σ.map (·.1), s.heap) σ' B h') : FrB X.G.W0 p σ' B h' := by
  have F0 := S.frs p hp
  have hL := (S.ok.frm p hp).2.1
  have out : ∀ b o, b ∉ p.2.1 → p.2.2.get? b = some o → b ∉ σ.map (·.1) ∧ b ≠ X.L := fun b o hb e => by
    refine ⟨fun q => ?_, fun q => ?_⟩
    · rcases F0.new b q with h | h
      · exact hb h
      · rw [e] at h; cases h
    · rw [q, hL] at e; cases e
  refine ⟨fun e he => ?_, fun b o hb hf hq => ?_, fun b hb => ?_⟩
  · obtain ⟨k, L, o, o', h1, h2, h3, h4, h5, h6, es, n, h7⟩ := F0.fr e he
    obtain ⟨_, L2, o2, o3, g1, g2, g3, g4, g5, g6, _⟩ := F.fr e (List.mem_cons_of_mem _ he)
    obtain rfl : L2 = L := Option.some.inj (g1.symm.trans h1)
    have g4 : s.heap.get? L2 = some o2 := g4
    rw [h5] at g4; cases g4
    exact ⟨k, L2, o, o3, h1, h2, h3, h4, g5, g6.trans h6, es, n, h7⟩
  · obtain ⟨n1, n2⟩ := out b o hb hq
    refine F.keep b o n1 (fun e he => ?_) (F0.keep b o hb hf hq)
    rcases List.mem_cons.mp he with rfl | he
    · rw [S.envFrame hp]; intro q; exact n2 (Option.some.inj q).symm
    · exact hf e he
  · rcases F.new b hb with h | h
    · exact F0.new b h
    · exact F0.fresh h
theorem St.nsBack {s : Shared} (S : St X m σ s) (hfr : X.env.frame = some X.L) {l : List Env} {σ' : Hp} {B h' : Heap} (F : FrB X.G.W0 (X.env :: l, σ.map (·.1), s.heap) σ' B h') (hB : B.StaysIn h') : NsR h' X.L X.names m := by
  refine S.ns.data (fun a items t => ?_) fun o ho => ?_
  · have n1 : a ∉ σ.map (·.1) := fun q => by obtain ⟨o, _, r⟩ := S.hr.own_of q; exact r.noTup t
    obtain ⟨o, ho, hc, n, hd⟩ := t
    refine ⟨o, hB _ _ (F.keep a o n1 (fun e he q => ?_) ho), hc, n, hd⟩
    obtain ⟨_, L2, o2, o3, g1, g2, g3, g4, g5, g6, es, k, g7⟩ := F.fr e he
    obtain rfl : L2 = a := Option.some.inj (g1.symm.trans q)
    have g4 : s.heap.get? L2 = some o2 := g4
    rw [ho] at g4; cases g4
    rw [hd] at g7; cases g7
  · obtain ⟨_, L2, o2, o3, g1, g2, g3, g4, g5, g6, _⟩ := F.fr X.env (.head _)
    obtain rfl : X.L = L2 := Option.some.inj (hfr.symm.trans g1)
    have g4 : s.heap.get? X.L = some o2 := g4
    rw [ho] at g4; cases g4
    exact ⟨o3, g5, g6⟩
theorem Cl.fnR {a : Addr} {l : List AV} {p : Pst} (hp : X.R = some p) (h : CallR X.G X.n (.ref a) l σ C EQ) (hm : PM m) : Cl X m σ (ExB X C PM EQ) (.ref a) l Q := by
  intro vf vs s S rf rs
  obtain rfl := rf.refE
  refine wpAny_call (codeAny_mono (h X.A S.ok.room (X.env :: p.1) (S.ok.frm p hp).1 s vs S.hr S.gens S.os S.two (S.frOk hp) rs) ?_)
  rintro r s' ⟨e, rfl, R⟩
  obtain ⟨⟨x, dx, σ', B, rfl, h2, q, H, f, fb⟩, g, o⟩ := R
  exact ⟨⟨p, hp, ⟨⟨x, dx, σ', B, rfl, h2, q, H, .inr (.inl f), S.comp hp fb⟩, g, o⟩⟩, m, hm, S.nsBack (S.envFrame hp) fb f.1⟩
/-- raised here -/
theorem St.raised {s : Shared} {x dx : Addr} {σ' : Hp} {p : Pst} (S : St X m σ s) (hp : X.R = some p) (le : Le ((x, .exc C (some dx)) :: σ') σ) (q : EQ dx σ') (hm : PM m) : ExB X C PM EQ (.ref x) s := by
  have hx : (x, AO.exc C (some dx)) ∈ σ := le.sub _ (.head _)
  have hxm : x ∈ σ.map (·.1) := List.mem_map_of_mem hx
  obtain ⟨t, ho⟩ := S.hr.own _ hx
  have ho : s.heap.get? x = some (excObj C (some dx) t) := ho
  have F0 := S.frs p hp
  have K := S.frOk hp
  have nd := le.nd S.hr.nd
  simp only [List.map_cons, List.nodup_cons] at nd
  have hid : ∀ b o, s.heap.get? b = some o → b ≠ x → (∀ e ∈ X.env :: p.1, e.frame ≠ some b) → (hideAll s.heap (x :: (X.env :: p.1).filterMap (·.frame))).get? b = some o := fun b o hb hne hf =>
    hideAll_get _ hb fun hm => by
      rcases List.mem_cons.mp hm with h | h
      · exact hne h
      · obtain ⟨e, he, q⟩ := List.mem_filterMap.mp h
        exact hf e he q
  have hfr : ∀ b ∈ σ.map (·.1), ∀ e ∈ X.env :: p.1, e.frame ≠ some b := fun b hb e he hq => by
    obtain ⟨_, L, o, h1, _, h3, _⟩ := K e he
    obtain rfl : L = b := Option.some.inj (h1.symm.trans hq)
    exact h3 hb
  have tup : ∀ a items, IsTup s.heap a items → IsTup (hideAll s.heap (x :: (X.env :: p.1).filterMap (·.frame))) a items := by
    rintro a items ⟨o, h1, h2, n, h3⟩
    refine ⟨o, hid a o h1 (fun e => ?_) (fun e he hq => ?_), h2, n, h3⟩
    · subst e; rw [ho] at h1; cases h1; cases h3
    · obtain ⟨_, L, o', g1, _, _, g4, es, k, g5⟩ := K e he
      obtain rfl : L = a := Option.some.inj (g1.symm.trans hq)
      rw [h1] at g4; cases g4
      rw [h3] at g5; cases g5
  have sub : ∀ b ∈ σ'.map (·.1), b ∈ σ.map (·.1) := fun b hb => by
    obtain ⟨r, hr, rfl⟩ := List.mem_map.mp hb
    exact List.mem_map_of_mem (le.sub r (List.mem_cons_of_mem _ hr))
  refine ⟨⟨p, hp, ⟨⟨x, dx, σ', hideAll s.heap (x :: (X.env :: p.1).filterMap (·.frame)), rfl, S.hr.lo _ hx, q, ⟨fun r hr => ?_, nd.2, fun b o hb => ?_, fun r hr => ?_, fun r hr => ?_⟩, .inl ⟨fun b o hb => of_hideAll _ hb, hideAll_none _ (.head _), ?_, ?_⟩, ⟨F0.fr, fun b o hb hf hq => ?_, fun b hb => F0.new b (sub b hb)⟩⟩, S.gens, S.os⟩⟩, m, hm, S.ns⟩
  · have hr' := le.sub r (List.mem_cons_of_mem _ hr)
    exact (S.hr.own r hr').keep tup fun o hb => hid r.1 o hb (fun e => nd.1 (e ▸ List.mem_map_of_mem hr)) (hfr r.1 (List.mem_map_of_mem hr'))
  · refine hid b o (S.hr.base b o hb) (fun e => ?_) fun e he hq => ?_
    · subst e; have := S.hr.apart _ hx; rw [hb] at this; cases this
    · obtain ⟨_, L, o', g1, g2, _⟩ := K e he
      obtain rfl : L = b := Option.some.inj (g1.symm.trans hq)
      rw [hb] at g2; cases g2
  · exact S.hr.apart r (le.sub r (List.mem_cons_of_mem _ hr))
  · exact S.hr.lo r (le.sub r (List.mem_cons_of_mem _ hr))
  · have : ∀ l : List Env, (∀ e ∈ l, e ∈ X.env :: p.1) → s.heap.FunFrames (hideAll s.heap (x :: (X.env :: p.1).filterMap (·.frame))) l := by
      intro l
      induction l with
      | nil => intro _; trivial
      | cons e l ih =>
        intro hl
        obtain ⟨k, L, o, h1, h2, h3, h4, es, n, h5⟩ := K e (hl e (.head _))
        exact ⟨k, ⟨L, o, h1, hideAll_none _ (List.mem_cons_of_mem _ (List.mem_filterMap.mpr ⟨e, hl e (.head _), h1⟩)), h4, fun vs q => by rw [h5] at q; cases q⟩, ih fun e' he' => hl e' (List.mem_cons_of_mem _ he')⟩
    exact this _ fun e he => he
  · exact ⟨_, _, ho, rfl, rfl, rfl, rfl⟩
  · refine hid b o (F0.keep b o hb hf hq) (fun e => ?_) fun e he hq' => ?_
    · subst e
      rcases F0.new b hxm with h | h
      · exact hb h
      · rw [hq] at h; cases h
    · rcases List.mem_cons.mp he with rfl | he
      · obtain rfl : X.L = b := Option.some.inj ((S.envFrame hp).symm.trans hq')
        rw [(S.ok.frm p hp).2.1] at hq; cases hq
      · exact hf e he hq'
/-- into a def that raises -/
theorem CallR.enterB {G : Gl} {n : Nat} {a : Addr} {fd : FuncData} {ps : List Str} {body : List Stmt} {args : List AV} {σ : Hp} (F : FnOk G a fd ps body) (g : GOk G)
    (hb : ∀ h vals s, G.K.In s.heap → VRs h args vals → BindsTo s fd ⟨vals, []⟩ (ps.zip vals)) (hl : args.length = ps.length)
    (h : ∀ L A p, Xs (.mk0 G fd L a A n (some p)) (execs body (Fx.env (.mk0 G fd L a A n (some p)))) (args.map some) σ (ExB (.mk0 G fd L a A n (some p)) C (fun _ => True) EQ) (fun _ _ _ => False)) : CallR G (n + 1) (.ref a) args σ C EQ := by
  intro A hr l hfr s vals H hg ho h2 K r
  obtain ⟨oc, od, osl, hlook⟩ := F.look
  have XK := g.kin.keeps H.base
  obtain ⟨p, lo, mg, mb, T⟩ := g.top
  have hns : s.heap.get? s.heap.objs.size = none := Heap.get?_none_of_le (Nat.le_refl _)
  refine codeAny_call_def (fd := fd) (body := body) (binds := ps.zip vals) (by have := hr.1; omega) (XK _ _ hlook) rfl (T.nolimit.keeps H.base) (codeRec_of XK F.code) F.body (hb s.heap vals s XK r) ?_ ?_ (fun h₀ hns₀ hk => ?_) F.co F.gen F.kind
  · intro x hx
    have := List.all_eq_true.mp F.cell x hx
    simpa using this
  · intro y hy
    have := List.all_eq_true.mp F.loc y.1 (List.of_mem_zip hy).1
    simpa using this
  · have hrest : ps ++ (fd.scope.names.map (·.1)).drop ps.length = fd.scope.names.map (·.1) := by
      conv => lhs; lhs; rw [← F.pre]
      exact List.take_append_drop ..
    have nL : s.heap.objs.size ∉ σ.map (·.1) := fun q => by
      obtain ⟨o, hp, e⟩ := H.own_of q
      obtain ⟨ob, e⟩ := e.there
      rw [hns] at e; cases e
    have kt := IsTup.keepAll hk
    have S : St (.mk0 G fd s.heap.objs.size a (A.deeper (callEnv fd s.heap.objs.size a)) n (some (l, σ.map (·.1), s.heap))) (args.map some) σ { s with heap := h₀, toks := s.toks + (ps.zip vals).length } := by
      refine ⟨⟨g, ?_, F.kind, F.glob, F.blt, h2, fun p hp => ?_⟩, ⟨fun p hp => (H.own p hp).keep kt (hk p.1), H.nd, fun b o e => hk b o (H.base b o e), H.apart, H.lo⟩, ⟨_, hns₀, fun x => ?_⟩, nL, ?_, hg, ho, fun p hp => ?_⟩
      · obtain ⟨r1, r2, r3⟩ := hr
        exact ⟨by show A.depth + 1 + n < recursionLimit; omega, by show A.units + 3 + 5 * n + 20 < cLine; omega, .inr (r3.resolve_left (Nat.succ_ne_zero n))⟩
      · cases hp; exact ⟨Around.frames_deeper hfr, hns, rfl⟩
      · show OVR h₀ (getN (fd.scope.names.map (·.1)) (args.map some) x) _
        have nd' : ((ps.zip vals).map (·.1)).Nodup := by
          have e : (ps.zip vals).map (·.1) = ps := by
            have := List.map_fst_zip (l₁ := ps) (l₂ := vals) (by rw [r.length, hl]; omega)
            simpa using this
          rw [e]
          have := F.nd
          rw [← hrest] at this
          exact (List.nodup_append.mp this).1
        rw [nodup_rev_lookup nd', ← hrest]
        exact zip_vals (r.keep kt) hl (by rw [hrest]; exact F.nd)
      · cases q : G.W0.get? s.heap.objs.size with
        | none => rfl
        | some o => exact absurd (Heap.lt_size (H.base _ _ q)) (Nat.lt_irrefl _)
      · cases hp
        refine ⟨fun e he => ?_, fun b o _ _ hb => hk b o hb, fun b hb => .inl hb⟩
        obtain ⟨k, L, o, h1, h2, h3, h4, es, n, h5⟩ := K e he
        exact ⟨k, L, o, o, h1, h2, h3, h4, hk L o h4, rfl, es, n, h5⟩
    refine xs_then (h _ _ _ _ S) (fun f s₁ gg m₁ σ₁ r₁ S₁ P₁ h₁ => h₁.elim) fun e s' he => ?_
    obtain ⟨⟨p, hp, R⟩, _⟩ := (show ExB _ _ _ _ _ _ from he)
    cases hp
    obtain ⟨⟨x, dx, σ', B, rfl, h2, q, HB, f, fb⟩, g', o'⟩ := R
    exact fl_leave (Around.frames_deeper hfr) rfl f fun h' f' u => ⟨_, rfl, ⟨⟨x, dx, σ', B, rfl, h2, q, HB, f', fb.upto u⟩, g', o'⟩⟩
end
open PySem PySem.W PySem.Calls PyProof.Rows PySem.SeqAt
/-- an exception's class -/
structure ExF (K : Frag) (C : Addr) : Prop where
  cls : ∃ nm q N bs bm sn sub ab col dd k0 k1 k2 k3 k5 newId, K.lookup C = some (excClassObj nm q C N bs bm true sn sub ab col dd k0 k1 k2 k3 k5 newId) ∧ bm.contains (.type "BaseException") = true
section
variable {X : Fx} {m : Loc} {σ : Hp} {C : Addr} {PM : Loc → Prop} {EQ : Addr → Hp → Prop} {Q : AV → Hp → Prop} {QS : AF → Loc → Hp → Prop} {EQ₀ : EPost}
theorem raise_own {M : Model} {A : Around} {E : Value → Shared → Prop} {K : Frag} {env : Env} {s : Shared} {x : Sem Value} {Q : Flow → Shared → Prop} (F : ExF K C) (hh : A.handled = none)
    (h : wpAny M A x (fun v s₁ => ∃ e dx t, v = .ref e ∧ K.In s₁.heap ∧ s₁.heap.get? e = some (excObj C (some dx) t) ∧ E (.ref e) s₁) E s) : wpAny M A (raiseStmt env (some x) none) Q E s := by
  obtain ⟨nm, q, N, bs, bm, sn, sub, ab, col, dd, k0, k1, k2, k3, k5, newId, hC, hb⟩ := F.cls
  have hcB : (Value.ref C :: bm).contains (.type "BaseException") = true := by rw [List.contains_cons, hb, Bool.or_true]
  unfold raiseStmt
  refine wpAny_bind (wpAny_mono h (fun v s₁ h₁ => ?_) fun _ _ x => x)
  obtain ⟨e, dx, t, rfl, X, he, hE⟩ := h₁
  have hC := X _ _ hC
  obtain ⟨hp, g, d, tk, os⟩ := s₁
  unfold excObj at he
  repeat (first | with_reducible refine wpAny_loadPart_at he ?_ | with_reducible refine wpAny_loadPart_at hC ?_ | (with_reducible refine wpAny_isSubtype_exc hC ?_; rw [hcB]) | wp_step)
  exact wpAny_raiseNew_none hh hE
theorem Xs.raise {e : Expr} {pos : Pos} {p : Pst} (hp : X.R = some p) (F : ExF X.G.K C) (hX : X.n ≠ 0)
    (h : Ev X (eval e X.env) m σ (ExB X C PM EQ) fun a σ₁ => ∃ x dx σ', a = .ref x ∧ Le ((x, .exc C (some dx)) :: σ') σ₁ ∧ EQ dx σ' ∧ PM m) :
    Xs X (exec (.Raise (some e) none pos) X.env) m σ (ExB X C PM EQ) QS := by
  intro s S
  rw [XsAt, arm_exec_Raise]
  refine wpAny_bind (wpAny_standAt (raise_own F (S.handled hX) (wpAny_bind (ev_then (h s S) (fun v s₁ a σ₁ r₁ S₁ P₁ h₁ => wpAny_bind (wpAny_standAt (wpAny_pure ?_))) fun _ _ e => e))))
  obtain ⟨x, dx, σ', rfl, le, q, hm⟩ := h₁
  obtain rfl := r₁.refE
  obtain ⟨t, ht⟩ := S₁.hr.own _ (le.sub _ (.head _))
  exact ⟨x, dx, t, rfl, S₁.kin, ht, S₁.raised hp le q hm⟩
theorem noted_back {s : Shared} {p : Pst} {e : Value} (hp : X.R = some p) (hfr : X.A.frames = some (X.env :: p.1)) (hf : X.env.frame = some X.L) (h : ExB X C PM EQ e s) : notedBy X.M X.A X.env (cameBackBy X.M X.A X.env (ExB X C PM EQ)) e s := by
  obtain ⟨⟨p', hp', R⟩, m, hm, ns⟩ := h
  rw [hp] at hp'; cases hp'
  obtain ⟨⟨x, dx, σ', B, rfl, h2, q, H, f, fb⟩, g, o⟩ := R
  unfold notedBy
  refine fl_note hfr hf f fun h₁ F₁ u₁ => fl_back hf F₁ fun h₂ F₂ u₂ => ?_
  have u := u₁.trans u₂
  exact ⟨⟨p, hp, ⟨⟨x, dx, σ', B, rfl, h2, q, H, .inr (.inr F₂), fb.upto u⟩, g, o⟩⟩, m, hm, ns.upto u⟩
theorem Xs.whileR {test : Expr} {body : List Stmt} {pos : Pos} {p : Pst} (hp : X.R = some p) (I : Nat → Loc → Hp → Prop)
    (hturn : ∀ n m σ, I n m σ → Tt X (isTrue test X.env (eval test X.env)) m σ (ExB X C PM EQ) fun b σ₁ => match b with
      | true => Xs X (execs body X.env) m σ₁ (ExB X C PM EQ) fun f m' σ' => match f with
        | .next => ∃ k, k < n ∧ I k m' σ'
        | .cont => ∃ k, k < n ∧ I k m' σ'
        | .brk => QS .next m' σ'
        | .ret a => QS (.ret a) m' σ'
      | false => QS .next m σ₁) (n : Nat) (h0 : I n m σ) : Xs X (exec (.While test body [] pos) X.env) m σ (ExB X C PM EQ) QS := by
  intro s S
  have hfr := (S.ok.frm p hp).1
  refine wpAny_While ?_
  refine codeAny_whileLoop (prog := X.G.prog) (w := X.G.w) (fun n s' => ∃ m' σ', St X m' σ' s' ∧ Step X.L σ σ' s.heap s'.heap ∧ I n m' σ') ?_ n ⟨m, σ, S, .refl S.noL _, h0⟩
  rintro n s' ⟨m', σ', S', P', hI⟩
  refine tt_then (hturn n m' σ' hI s' S') (fun b s₁ σ₁ S₁ P₁ h₁ => ?_) fun e s₁ he => noted_back hp hfr (S.ok.frm p hp).2.2 he
  cases b with
  | true =>
    refine wpAny_mono (h₁ s₁ S₁) (fun f s₃ ⟨g, m₃, σ₃, r₃, S₃, P₃, q⟩ => ?_) fun e s₃ he => noted_back hp hfr (S.ok.frm p hp).2.2 he
    have P₄ := (P'.trans P₁).trans P₃
    cases g with
    | next => obtain rfl := r₃; obtain ⟨k, hk, q⟩ := q; exact ⟨k, hk, m₃, σ₃, S₃, P₄, q⟩
    | cont => obtain rfl := r₃; obtain ⟨k, hk, q⟩ := q; exact ⟨k, hk, m₃, σ₃, S₃, P₄, q⟩
    | brk => obtain rfl := r₃; exact ⟨.next, m₃, σ₃, rfl, S₃, P₄, q⟩
    | ret a => obtain ⟨w, rfl, rw⟩ := r₃; exact ⟨.ret a, m₃, σ₃, ⟨w, rfl, rw⟩, S₃, P₄, q⟩
  | false => exact wpAny_execs_nil ⟨.next, m', σ₁, rfl, S₁, P'.trans P₁, h₁⟩
/-! try -/
/-- the frame, its start set anew -/
noncomputable def Fx.at (X : Fx) (p : Pst) : Fx := { X with R := some p }
/-- the frame, as an exception is held -/
noncomputable def Fx.hd (X : Fx) (e : Addr) : Fx := { X with A := X.A.mark (some (.ref e)), n := 0, R := none }
theorem getN_setO {names : List Str} {m : Loc} {x : Str} {i : Nat} {o : Option AV} (n : NIx names x i) (hi : i < m.length) (y : Str) : getN names (m.set i o) y = if y = x then o else getN names m y := by
  by_cases h : y = x
  · subst h
    rw [if_pos rfl]; unfold getN
    rw [show names.findIdx? (· == y) = some i from n]
    show ((m.set i o)[i]?).join = _
    rw [List.getElem?_set_self hi]; rfl
  · rw [if_neg h]
    unfold getN
    cases q : names.findIdx? (· == y) with
    | none => rfl
    | some j =>
      have hj : j ≠ i := by
        rintro rfl
        obtain ⟨hlt, hp, _⟩ := List.findIdx?_eq_some_iff_getElem.mp q
        obtain ⟨hlt', hp', _⟩ := List.findIdx?_eq_some_iff_getElem.mp n
        have := eq_of_beq hp; have := eq_of_beq hp'
        simp_all
      show ((m.set i o)[j]?).join = (m[j]?).join
      rw [List.getElem?_set_ne (Ne.symm hj)]
theorem Xs.tryAs {body suite : List Stmt} {b₀ : Stmt} {x n : Str} {np hpos pos : Pos} {j : Nat} {σ₀ : List Addr} {h₀ : Heap} (hR : X.R = some ([], σ₀, h₀)) (F : ExF X.G.K C) (gx : Gb X.fd x) (fx : GlF X.G.K x C) (ln : Lc X.fd n j)
    (hb : ∀ p : Pst, Xs (X.at p) (execs body X.env) m σ (ExB (X.at p) C (fun m' => m' = m) EQ) QS)
    (hh : ∀ e dx σ', EQ dx σ' → ∃ m', SetAt m j (.ref e) m' ∧ Xs (X.hd e) (execs (b₀ :: suite) X.env) m' ((e, .held C dx) :: σ') NoE fun f m₂ σ₂ => j < m₂.length ∧ ∃ v, f = .ret v ∧ ∀ m₃, QS (.ret v) m₃ σ₂) :
    Xs X (exec (.Try body [.ExceptHandler (some (.Name x np)) (some n) (b₀ :: suite) hpos] [] [] pos) X.env) m σ EQ₀ QS := by
  intro s S
  refine (fun main : ∀ (RR : Flow → Shared → Prop) (EE : Value → Shared → Prop), (∀ f s' g m' σ', FR s'.heap g f → St X m' σ' s' → Step X.L σ σ' s.heap s'.heap → QS g m' σ' → RR f s') → wpAny X.M X.A (exec (.Try body [.ExceptHandler (some (.Name x np)) (some n) (b₀ :: suite) hpos] [] [] pos) X.env) RR EE s => main _ _ fun f s' g m' σ' a b c d => ⟨g, m', σ', a, b, c, d⟩) ?_
  intro RR EE hRR
  have hfr := (S.ok.frm _ hR).1
  have hLn : (s.heap.hide X.L).get? X.L = none := Heap.hide_self ..
  have S₁ : St (X.at ([], σ.map (·.1), s.heap.hide X.L)) m σ s :=
    ⟨⟨S.ok.g, S.ok.room, S.ok.kind, S.ok.glob, S.ok.blt, S.ok.lo, fun p hp => by cases hp; exact ⟨hfr, hLn, (S.ok.frm _ hR).2.2⟩⟩, S.hr, S.ns, S.noL, S.newL, S.gens, S.os,
      fun p hp => by cases hp; exact ⟨(fun e he => by cases he), (fun b o _ _ hb => Heap.of_hide hb), (fun b hb => .inl hb)⟩⟩
  refine wpAny_Try_except (xs_then (hb _ s S₁) (fun f s₁ g m₁ σ₁ r₁ T₁ P₁ h₁ => ?_) fun e s₁ he => ?_)
  · have T : St X m₁ σ₁ s₁ := ⟨S.ok, T₁.hr, T₁.ns, T₁.noL, T₁.newL, T₁.gens, T₁.os, S.frs' P₁⟩
    cases g with
    | next => obtain rfl := r₁; exact wpAny_execs_nil (hRR _ _ .next m₁ σ₁ rfl T P₁ h₁)
    | brk => obtain rfl := r₁; exact hRR _ _ .brk m₁ σ₁ rfl T P₁ h₁
    | cont => obtain rfl := r₁; exact hRR _ _ .cont m₁ σ₁ rfl T P₁ h₁
    | ret a => obtain ⟨w, rfl, rw⟩ := r₁; exact hRR _ _ (.ret a) m₁ σ₁ ⟨w, rfl, rw⟩ T P₁ h₁
  · obtain ⟨⟨p, hp, R⟩, m', rfl, ns⟩ := (show ExB _ _ _ _ _ _ from he)
    cases hp
    obtain ⟨⟨e, dx, σ', B, rfl, h2, q, H, f, fb⟩, hg, ho⟩ := R
    have hf : X.env.frame = some X.L := (S.ok.frm _ hR).2.2
    refine fl_note hfr hf f fun h₁ F₁ u₁ => fl_set (fr := none) F₁ fun h₂ F₂ u₂ => ?_
    have F₂ : FlT .none B [X.env] C dx e h₂ := F₂
    have u := u₁.trans u₂
    have fb := fb.upto u
    have ns := NsR.upto ns u
    have hBs : B.StaysIn h₂ := F₂.1
    have hBe : B.get? e = none := F₂.2.1
    obtain ⟨oe, vs, T, oT, ts, he, hc, hdi, hd, -⟩ := F₂.2.2.2
    obtain ⟨-, ⟨L', oL, eL, nB, hL, hLf⟩, -⟩ := F₂.2.2.1
    obtain rfl : X.L = L' := Option.some.inj (hf.symm.trans eL)
    have inB : ∀ b ∈ σ'.map (·.1), ∃ o, B.get? b = some o := fun b hb => by obtain ⟨o, _, r⟩ := H.own_of hb; exact r.there
    have eσ : e ∉ σ'.map (·.1) := fun hm => by obtain ⟨o, ho⟩ := inB _ hm; rw [hBe] at ho; cases ho
    have Lσ : X.L ∉ σ'.map (·.1) := fun hm => by obtain ⟨o, ho⟩ := inB _ hm; rw [nB] at ho; cases ho
    have eL : e ≠ X.L := fun q => by rw [q, hL] at he; cases he; exact hLf vs hd
    have W0e : X.G.W0.get? e = none := by
      cases q : X.G.W0.get? e with
      | none => rfl
      | some o => have := H.base _ _ q; rw [hBe] at this; cases this
    have kt : ∀ a items, IsTup B a items → IsTup h₂ a items := IsTup.keepAll hBs
    have P₂ : ∀ h, B.StaysIn h → Step X.L σ ((e, .held C dx) :: σ') s.heap h := by
      intro h hB
      refine ⟨fun b o hb hbL ho => hB _ _ (fb.keep b o hb (fun _ hf => by cases hf) ((Heap.hide_ne s.heap hbL).trans ho)), fun b hb => ?_, ?_⟩
      · have old : ∀ b, (s.heap.hide X.L).get? b = none → b ≠ X.L → s.heap.get? b = none := fun b hb hn => (Heap.hide_ne s.heap hn).symm.trans hb
        simp only [List.map_cons, List.mem_cons] at hb
        rcases hb with rfl | hb
        · by_cases hq : b ∈ σ.map (·.1)
          · exact .inl hq
          · refine .inr ?_
            cases hs : s.heap.get? b with
            | none => rfl
            | some o =>
              have := fb.keep b o hq (fun _ hf => by cases hf) ((Heap.hide_ne s.heap eL).trans hs)
              rw [hBe] at this; cases this
        · rcases fb.new b hb with h | h
          · exact .inl h
          · exact .inr (old b h fun q => Lσ (q ▸ hb))
      · simp only [List.map_cons, List.mem_cons, not_or]; exact ⟨eL.symm, Lσ⟩
    have room : Rm (X.hd e).A 0 := ⟨by have := S.ok.room.1; show X.A.depth + 0 < _; omega, by have := S.ok.room.2.1; show X.A.units + 5 * 0 + 20 < _; omega, .inl rfl⟩
    have mk : ∀ {σ'' : Hp} {h : Heap} {m : Loc}, HRel X.G σ'' h → NsR h X.L X.names m → X.L ∉ σ''.map (·.1) → St (X.hd e) m σ'' { s₁ with heap := h } := fun a b c =>
      ⟨⟨S.ok.g, room, S.ok.kind, S.ok.glob, S.ok.blt, S.ok.lo, fun p hp => by cases hp⟩, a, b, c, S.newL, hg, ho, fun p hp => by cases hp⟩
    have HR : ∀ {h : Heap} {oe : Obj} {vs : Array Value}, B.StaysIn h → h.get? e = some oe → oe.cls = .ref C → oe.dict = some dx → oe.data = .fields vs → HRel X.G ((e, .held C dx) :: σ') h := fun {h oe vs} hB he hc hdi hd => by
      refine ⟨fun r hr => ?_, ?_, fun b o hb => hB b o (H.base b o hb), fun r hr => ?_, fun r hr => ?_⟩
      · rcases List.mem_cons.mp hr with rfl | hr
        · exact ⟨oe, vs, he, hc, hdi, hd⟩
        · exact (H.own r hr).keep (IsTup.keepAll hB) (hB r.1)
      · simp only [List.map_cons, List.nodup_cons]; exact ⟨eσ, H.nd⟩
      · rcases List.mem_cons.mp hr with rfl | hr
        · exact W0e
        · exact H.apart r hr
      · rcases List.mem_cons.mp hr with rfl | hr
        · exact h2
        · exact H.lo r hr
    have T₂ := mk (HR hBs he hc hdi hd) ns (P₂ _ hBs).noL
    obtain ⟨nm, qn, N, bs, bm, sn, sub, ab, col, dd, k0, k1, k2, k3, k5, newId, hC, hbm⟩ := F.cls
    refine wpAny_handleBy_cons (codeAny_handlers_test ?_) (by intro q; cases q)
    obtain ⟨pp, lo, mg, mb, TR⟩ := S.ok.g.top
    refine Name_function_global (env := X.env) S.ok.kind gx.kind (loadGlobal_global (env := X.env) (mg := mg) ?_ (mg_of S.ok.g.kin TR.g fx.ns) ?_) gx.dbg
    · show h₂.Ns X.fd.globals mg
      rw [S.ok.glob]; exact TR.g.keeps T₂.hr.base
    refine wpAny_excMatches_sub_self (T₂.kin _ _ hC) he hc hbm ?_
    refine codeAny_handlers_suite_as (fl_set (fr := none) F₂ fun h₃ F₃ u₃ => ?_)
    obtain ⟨m₁, sa, hx⟩ := hh e dx σ' q
    have he₃ : ∃ oe', h₃.get? e = some oe' ∧ oe'.cls = .ref C ∧ oe'.dict = some dx ∧ ∃ vs, oe'.data = .fields vs := by
      obtain ⟨oe, vs, T, oT, ts, he, hc, hdi, hd, -⟩ := F₃.2.2.2; exact ⟨oe, he, hc, hdi, vs, hd⟩
    obtain ⟨oe₃, he₃, hc₃, hdi₃, vs₃, hd₃⟩ := he₃
    have P₃ := P₂ h₃ F₃.1
    have T₃ := mk (HR F₃.1 he₃ hc₃ hdi₃ hd₃) (ns.upto u₃) P₃.noL
    refine store_local (X := X.hd e) T₃ ln sa .refI fun s₄ T₄ P₄ => ?_
    refine xs_then (hx s₄ T₄) (fun f s₅ g m₅ σ₅ r₅ T₅ P₅ q₅ => ?_) fun e' s₅ he => (show False from he).elim
    obtain ⟨hj, v, rfl, q₅⟩ := q₅
    obtain ⟨w, rfl, rw⟩ := r₅
    obtain ⟨mr, hn, hm⟩ := T₅.ns
    refine wpAny_nameGoes_keeps ln.kind hn (by show (X.fd.scope.kind == .class || (X.fd.scope.kind == .module && X.L != X.fd.globals)) = false; rw [S.ok.kind]; rfl) fun h₆ o₆ hn₆ hs₆ => ?_
    have keep : ∀ b x, b ≠ X.L → s₅.heap.get? b = some x → h₆.get? b = some x := fun b x hb e => (hs₆.2 b hb).trans e
    have kt' := IsTup.keepBut keep (fun items => T₅.ns.noTup)
    have P₆ := T₅.loc (tk := s₅.toks + 1) (m' := m₅.set j (o₆.map AV.oth)) keep ⟨_, hn₆, fun y => by
      rw [show getN (X.hd e).names (m₅.set j (o₆.map AV.oth)) y = _ from getN_setO ln.ix hj y]
      by_cases e : y = n
      · rw [if_pos e, if_pos e]
        cases o₆ with
        | none => rfl
        | some z => exact ⟨z, rfl, .othI⟩
      · rw [if_neg e, if_neg e]; exact (hm y).keep kt'⟩
    have P := ((P₃.trans P₄).trans P₅).trans P₆.2
    exact hRR _ _ (.ret v) _ σ₅ ⟨w, rfl, rw.keep kt'⟩ ⟨S.ok, P₆.1.hr, P₆.1.ns, P₆.1.noL, S.newL, P₆.1.gens, P₆.1.os, S.frs' P⟩ P (q₅ _)
end
open PySem PySem.W PySem.Calls PyProof.Rows PySem.SeqAt
noncomputable def strKeysB (es : Array DictEntry) : Bool := es.all fun e => match e.key with
  | .str _ _ => true
  | _ => false
theorem strKeys_of {es : Array DictEntry} (h : strKeysB es = true) : StrKeys es := by
  intro e he
  have := (Array.all_eq_true_iff_forall_mem.mp h) e he
  split at this
  · rename_i n t hk; exact ⟨n, t, hk⟩
  · cases this
noncomputable abbrev exLine : List Value := [.type "Exception", .type "BaseException", .type "object"]
/-- an exception's class with an __init__ of its own, below one that has nothing -/
structure ExM (K : Frag) (C fI : Addr) : Prop where
  cls : ∃ nm q N bs D sn sub ab col dd k0 k1 k2 k3 k5 cd c0 ddD slD oN es ep,
    K.lookup C = some (excClassObj nm q C N bs (.ref D :: exLine) true sn sub ab col dd k0 k1 k2 k3 k5 "Exception.__new__") ∧
    K.lookup D = some { cls := c0, dict := ddD, data := .cls cd, slots := slD } ∧ K.lookup cd.ns = some oN ∧ oN.data = .dict es ep ∧ strKeysB es = true ∧ nsFind es "__init__" = none
  init : findIn K (.ref C) "__init__" = some (some (.ref fI))
  fn : typeIn K (.ref fI) = some (.type "function")
section
variable {prog : Program} {w : World} {A : Around} {K : Frag} {C fI : Addr} {R : Result → Shared → Prop} {h : Heap} {g : Array GenState} {d : Drawn} {t : Nat} {os : OsState}
theorem exc_make (X : K.In h) (Y : ExM K C fI) {rest : List Value} (hrest : rest.length ≤ sizeLine)
    (hq : ∀ h' e, h.objs.size ≤ e → Heap.MadeExcOf h h' e (.ref C) rest → codeAny (model prog w) (A.under (.builtin "type.__call__" ⟨.ref C :: rest, []⟩)) (.call (.ref fI) ⟨.ref e :: rest, []⟩) (InitBack e R) ⟨h', g, d, t, os⟩) :
    codeAny (model prog w) A (.call (.ref C) ⟨rest, []⟩) R ⟨h, g, d, t, os⟩ := by
  obtain ⟨nm, q, N, bs, D, sn, sub, ab, col, dd, k0, k1, k2, k3, k5, cd, c0, ddD, slD, oN, es, ep, hC, hD, hN, hNd, hNk, hNi⟩ := Y.cls
  have hC := X _ _ hC
  have hD := X _ _ hD
  have hN := X _ _ hN
  have F := PySem.F.excBase_Exception
  have T : OwnTail h exLine (.ref D :: exLine) := .own hD ⟨oN, es, ep, hN, hNd, strKeys_of hNk, fun _ => rfl⟩ hNi .base
  have f1 := tc_lookup
  have f2 := tc_bind (.ref C)
  have hT : (⟨h, g, d, t, os⟩ : Shared).TypeIs (.ref C) "type" := ⟨_, hC, rfl⟩
  refine codeAny_of_tree ?_
  show wpAny _ _ (callAny (.ref C) _) _ _ _
  repeat (any_goals (first | assumption | with_reducible refine wpAny_loadPart_at hC ?_ | wp_step))
  refine ⟨rfl, ?_⟩
  refine codeAny_call_builtin_at (Code.quiet_builtin _ (by decide +kernel)) entry_typeCall (wpAny_check_type_call_sub hC ?_)
  repeat (first | with_reducible refine wpAny_loadPart_at hC ?_ | with_reducible refine wpAny_madeBy_exc hC ?_ | wp_step)
  refine codeAny_call_builtin_code (Code.quiet_builtin _ F.quiet) (wpAny_check_new_subT F T hC ?_)
  refine codeAny_exc_new_subT F T hC ?_ hrest
  show wpAny _ _ _ _ _ _
  have k : ∀ b o, h.get? b = some o → ((h.push ({ cls := .type "tuple", data := .seq rest.toArray } : Obj)).push ({ cls := .ref C, data := .fields #[.ref h.objs.size, .none, .none, .none, .bool false, .none] } : Obj)).get? b = some o := fun b o e => Heap.get?_push_of_some _ (Heap.get?_push_of_some _ e)
  have X₁ : K.In ((h.push ({ cls := .type "tuple", data := .seq rest.toArray } : Obj)).push ({ cls := .ref C, data := .fields #[.ref h.objs.size, .none, .none, .none, .bool false, .none] } : Obj)) := X.keeps k
  have hC₁ := k _ _ hC
  have hge : ((h.push ({ cls := .type "tuple", data := .seq rest.toArray } : Obj)).push ({ cls := .ref C, data := .fields #[.ref h.objs.size, .none, .none, .none, .bool false, .none] } : Obj)).get? (h.objs.size + 1) = some ({ cls := .ref C, data := .fields #[.ref h.objs.size, .none, .none, .none, .bool false, .none] } : Obj) := by heap_get
  have hgt : ((h.push ({ cls := .type "tuple", data := .seq rest.toArray } : Obj)).push ({ cls := .ref C, data := .fields #[.ref h.objs.size, .none, .none, .none, .bool false, .none] } : Obj)).get? h.objs.size = some ({ cls := .type "tuple", data := .seq rest.toArray } : Obj) := Heap.get?_push_of_some _ (Heap.get?_push_at rfl rfl)
  have hcC : (Value.ref C :: .ref D :: exLine).contains (.ref C) = true := by simp
  unfold isInstance
  repeat (first | with_reducible refine wpAny_loadPart_at hge ?_ | (with_reducible refine wpAny_isSubtype_exc hC₁ ?_; rw [hcC]) | wp_step)
  refine wpAny_isSubtype_exc hC₁ ?_
  rw [hcC]
  repeat wp_step
  show wpAny _ _ (typeLookup (.ref C) _) _ _ _
  refine (looks_findIn X₁ Y.init).at ?_
  refine wpAny_holding (wpAny_bind ((bind_fn X₁ _ Y.fn).at (wpAny_bind ?_)))
  refine wpAny_call (codeAny_mono (hq _ (h.objs.size + 1) (Nat.le_succ _) ⟨k, Heap.get?_none_of_le (Nat.le_succ _), h.objs.size, hge, Heap.get?_none_of_le (Nat.le_refl _), hgt⟩) fun r s' z => ?_)
  rcases r with e | (v | _ | _ | _) <;> first | exact z | exact z.elim | skip
  obtain ⟨rfl, z⟩ := z
  exact wpAny_pure (wpAny_pure z)
end
open PySem PySem.W PySem.Calls PyProof.Rows PySem.SeqAt
open Builtin Builtin.ObjectAttr
/-! an exception made by hand -/
theorem CallOk.makeX {G : Gl} {n : Nat} {C fI : Addr} {args : List AV} {σ : Hp} {Q : AV → Hp → Prop} (g : GOk G) (Y : ExM G.K C fI) (hz : args.length ≤ 100)
    (h : ∀ x, CallOk G n (.ref fI) (.ref x :: args) ((x, .exc C none) :: σ) fun v σ' => v = .none ∧ Q (.ref x) σ') : CallOk G (n + 1) (.ref C) args σ Q := by
  intro A hr s vals H hg ho h2 r
  have X := g.kin.keeps H.base
  obtain ⟨hh, gg, d, t, os⟩ := s
  refine exc_make X Y (by rw [r.length]; have := sizeLine_big; omega) fun h' e he hm => ?_
  obtain ⟨t', ht, -⟩ := hm.there
  have k := hm.keeps
  have kt := IsTup.keepAll k
  have ne : hh.get? e = none := hm.new
  have fr : e ∉ σ.map (·.1) := fun q => by
    obtain ⟨o, hp, z⟩ := H.own_of q
    obtain ⟨ob, z⟩ := z.there
    rw [ne] at z; cases z
  have w0 : G.W0.get? e = none := by
    cases q : G.W0.get? e with
    | none => rfl
    | some o => have := H.base _ _ q; rw [ne] at this; cases this
  have H' : HRel G ((e, .exc C none) :: σ) h' := by
    refine ⟨fun p hp => ?_, ?_, fun b o q => k b o (H.base b o q), fun p hp => ?_, fun p hp => ?_⟩
    · rcases List.mem_cons.mp hp with rfl | hp
      · exact ⟨t', ht⟩
      · exact (H.own p hp).keep kt (k p.1)
    · simp only [List.map_cons, List.nodup_cons]; exact ⟨fr, H.nd⟩
    · rcases List.mem_cons.mp hp with rfl | hp
      · exact w0
      · exact H.apart p hp
    · rcases List.mem_cons.mp hp with rfl | hp
      · exact Nat.le_trans h2 he
      · exact H.lo p hp
  have hr' : Rm (A.under (.builtin "type.__call__" ⟨.ref C :: vals, []⟩)) n := by
    obtain ⟨r1, r2, r3⟩ := hr
    refine ⟨?_, ?_, .inr (r3.resolve_left (Nat.succ_ne_zero n))⟩
    · show A.depth + 1 + n < recursionLimit; omega
    · show A.units + 1 + 5 * n + 20 < cLine; omega
  have hsz : 2 ≤ h'.objs.size := by
    have h1 := Heap.lt_size ht
    have h2 : 2 ≤ hh.objs.size := h2
    have h3 : hh.objs.size ≤ e := he
    exact Nat.le_of_lt (Nat.lt_of_le_of_lt (Nat.le_trans h2 h3) h1)
  refine codeAny_mono (h e _ hr' ⟨h', gg, d, t, os⟩ (.ref e :: vals) H' hg ho hsz (.cons .refI (r.keep kt))) ?_
  rintro rr s' ⟨v, a, σ', rfl, rv, Hf, Cf, gf, of, rfl, q⟩
  refine ⟨rv.noneE, .ref e, .ref e, σ', rfl, .refI, Hf, ⟨fun b o hb z => Cf.keep b o ?_ (k b o z), fun b hb => ?_⟩, gf, of, q⟩
  · simp only [List.map_cons, List.mem_cons, not_or]
    refine ⟨fun q => ?_, hb⟩
    subst q
    have z : hh.get? b = some o := z
    rw [ne] at z; cases z
  · rcases Cf.new b hb with h | h
    · simp only [List.map_cons, List.mem_cons] at h
      rcases h with rfl | h
      · exact .inr ne
      · exact .inl h
    · refine .inr ?_
      cases z : hh.get? b with
      | none => rfl
      | some o => have h : h'.get? b = none := h; rw [k b o z] at h; cases h
/-- what the class says of a name -/
structure AtE (K : Frag) (C : Addr) (names : List Str) (x : Str) (i : Nat) : Prop where
  dict : hasDictIn K C = true
  fnd : findIn K (.ref C) x = some none
  ix : NIx names x i
noncomputable def isRef : Value → Bool
  | .ref _ => true
  | _ => false
theorem isRef_ex {v : Value} (h : isRef v = true) : ∃ c, v = .ref c := by
  cases v <;> first | exact ⟨_, rfl⟩ | exact (Bool.false_ne_true h).elim
noncomputable def overMro (l : List Value) : Bool := l.length == 5 && ((l.take 2).all isRef && l.drop 2 == exLine)
theorem overMro_ex {l : List Value} (h : overMro l = true) : ∃ c1 c2, l = .ref c1 :: .ref c2 :: exLine := by
  obtain ⟨h1, h2⟩ := Bool.and_eq_true_iff.mp h
  obtain ⟨h3, h4⟩ := Bool.and_eq_true_iff.mp h2
  obtain ⟨a, r, e, l1⟩ := lenS (n := 4) (eq_of_beq h1)
  subst e
  obtain ⟨b, r2, e, l2⟩ := lenS l1
  subst e
  obtain ⟨g1, g2⟩ := Bool.and_eq_true_iff.mp (show (isRef a && (isRef b && true)) = true from h3)
  obtain ⟨c1, rfl⟩ := isRef_ex g1
  obtain ⟨c2, rfl⟩ := isRef_ex (Bool.and_eq_true_iff.mp g2).1
  exact ⟨c1, c2, congrArg (fun x => Value.ref c1 :: Value.ref c2 :: x) (eq_of_beq h4)⟩
noncomputable def excOver (K : Frag) (C : Addr) : Bool := (clsIn K C).any fun cd => overMro cd.mro
structure StE (K : Frag) (C : Addr) : Prop where
  set : findIn K (.ref C) "__setattr__" = some (some (.builtin "object.__setattr__"))
  over : excOver K C = true
  get : findIn K (.ref C) "__getattribute__" = some (some (.builtin "BaseException.__getattribute__"))
  hook : findIn K (.ref C) "__getattr__" = some none
section
variable {prog : Program} {w : World} {A : Around} {K : Frag} {C x : Addr} {s : Shared} {R : Result → Shared → Prop} {ox : Obj} {od : Option Obj} {name : Str} {tk : Tok} {v : Value}
theorem osa_exc (X : K.In s.heap) (I : InstAt s.heap x ox C od) (hp : excOver K C = true) (ht : takerIn K C name = some none)
    (h : ∀ b, wpAny (model prog w) A.in1 (storeInOwnDict (.ref x) (.ref C) (.str name tk) name v b)
      (fun fin s' => match fin with | .done f => R (.ok f) s' | .again c' => c'.quiet = true ∧ codeAny (model prog w) A c' R s') (fun e s' => R (.error e) s') s) :
    codeAny (model prog w) A (.call (.builtin "object.__setattr__") ⟨[.ref x, .str name tk, v], []⟩) R s := by
  have SF := PySem.F.store_object
  obtain ⟨cd, hc, ho⟩ := any_some hp
  obtain ⟨c1, c2, hmro⟩ := overMro_ex ho
  have ne : cd.mro.isEmpty = false := by rw [hmro]; rfl
  have has : cd.mro.contains (.type "object") = true := by rw [hmro]; simp
  have sub : Looks (model prog w) s.heap (isInstance (.ref x) (.type "object")) true := I.type.andThen (looks_mroIn X (by unfold mroIn; rw [hc, Option.bind_some, if_neg (by rw [ne]; decide), has]))
  refine codeAny_call_builtin SF.slot.plain SF.entry (@check_slot (model prog w) _ _ s "object.__setattr__" "object" "__setattr__" (.ref x) [.str name tk, v] [] _ SF.kind SF.split sub (SF.args (.ref x) (.str name tk) v) ?_)
  obtain ⟨attr, ha, hr⟩ := Option.bind_eq_some_iff.mp ht
  have hm : Looks (model prog w) s.heap (mroOf (.ref C)) cd.mro := (looks_clsIn X hc).andThen .now
  have L3 : Looks (model prog w) s.heap (storeTaker? attr) none := by
    cases attr with
    | none => cases hr; exact .now
    | some a =>
      obtain ⟨b, hb, hq⟩ := Option.map_eq_some_iff.mp hr
      refine (looks_takesIn X hb).andThen ?_
      cases b with
      | true => cases hq
      | false => exact .now
  rw [osa_eq, refuse_eq]
  refine wpAny_bind (wpAny_bind (I.type.here (wpAny_bind (hm.here ?_))))
  rw [hmro, refuseLoop_ref, refuseLoop_ref, PySem.F.store_Exception.passes]
  refine wpAny_pure (wpAny_bind (I.type.here (wpAny_bind ((looks_findIn X ha).here (wpAny_bind (L3.here ?_))))))
  exact h _
end
section
variable {X : Fx} {m : Loc} {σ : Hp} {EQ : EPost} {Q : AV → Hp → Prop} {QS : AF → Loc → Hp → Prop}
set_option maxHeartbeats 1000000 in
theorem store_ns {dx : Addr} {attr : Str} {names : List Str} {vals vals' : List (Option AV)} {i : Nat} {a : AV} {v : Value} {s : Shared} {σ' : Hp} {A' : Around} {tk0 : Tok} {R : Fin → Shared → Prop} {E : Value → Shared → Prop}
    (S : St X m σ s) (u : UpdL dx (.ns names vals) (.ns names vals') σ σ') (n : NIx names attr i) (g : SetAt vals i a vals') (hz : vals.length ≤ 900) (hi : i ≤ 900)
    (r : VR s.heap a v) (q : ∀ s', St X m σ' s' → Step X.L σ σ' s.heap s'.heap → R (.done (.ret .none)) s') : wpAny X.M A' (storeInDict dx (.str attr tk0) attr v) R E s := by
  obtain ⟨o, es, ep, h2, h3, h4, h5, h6⟩ := S.hr.own _ u.mem
  have h2 : s.heap.get? dx = some o := h2
  unfold storeInDict newKeyGuard
  refine wpAny_bind (wpAny_pure (wpAny_bind ?_))
  unfold nsSet
  refine wpAny_bind (wpAny_bind (wpAny_askSetting (wpAny_pure (wpAny_bind (wpAny_mkText (wpAny_bind (wpAny_loadPart h2 ?_)))))))
  rw [h3]
  dsimp only
  have hno : (!es.any (·.key.isStr attr) && es.any (·.refKey)) = false := by
    have : es.any (·.refKey) = false := by
      rw [Array.any_eq_false']; intro e he; obtain ⟨n, t, h⟩ := h4 e he; simp [DictEntry.refKey, h]
    rw [this, Bool.and_false]
  rw [aRefKeyMayBeTheName_at, hno]
  refine wpAny_updatePart h2 ?_
  generalize hH : (if attr.cps.isEmpty = true then (0 : Int) else reduceHash (X.M.w.params.strHash attr.cps)) = H
  obtain ⟨es', ep', e1, e2⟩ := obj_putName h3 attr H (.str attr (s.toks)) v
  have hfree : (Obj.putName attr H (.str attr (s.toks)) v o).isFreed = false := Obj.isFreed_of_dict e1
  have get' := Heap.get?_update_self (Obj.putName attr H (.str attr (s.toks)) v) h2 hfree
  have sz : es'.size ≤ vals'.countP (·.isSome) := by
    rw [g.count, e2]
    cases hq : es.findIdx? (fun x => x.key.isStr attr) with
    | some j => simp only [Array.size_modify]; omega
    | none =>
      simp only [Array.size_push]
      have hf := h5 attr
      have hnone : nsFind es attr = none := by unfold nsFind; rw [findBy_of_findIdx?, hq]
      rw [hnone] at hf
      have : (vals[i]?).join = none := by
        have e : getN names vals attr = (vals[i]?).join := by unfold getN; rw [show names.findIdx? (· == attr) = some i from n]
        rw [e] at hf
        cases hj : (vals[i]?).join with
        | none => rfl
        | some a => rw [hj] at hf; obtain ⟨_, h, _⟩ := hf; cases h
      rw [this]; simp; omega
  have szz : es'.size ≤ sizeLine + 1 := by
    have h1 := g.len
    have h2 : vals'.countP (·.isSome) ≤ vals'.length := List.countP_le_length
    rw [sizeLine_eq]; omega
  have sk : StrKeys es' := by
    rw [e2]
    cases es.findIdx? (fun x => x.key.isStr attr) with
    | some j => exact h4.modify j v
    | none => exact h4.push H attr _ v
  have fnd : ∀ y, nsFind es' y = if y = attr then some v else nsFind es y := by
    intro y
    rw [e2]
    cases hq : es.findIdx? (fun x => x.key.isStr attr) with
    | some j => exact findBy_modify (fun n v => v.isStr n) Value.isStr_inj es attr y v j hq
    | none =>
      refine findBy_push (fun n v => v.isStr n) es attr y H (.str attr (s.toks)) v (fun y => ?_) hq
      show (attr == y) = _
      by_cases e : y = attr
      · rw [e, decide_eq_true rfl]; exact beq_self_eq_true attr
      · rw [decide_eq_false e]; exact beq_eq_false_iff_ne.mpr (Ne.symm e)
  have keep : ∀ b x, b ≠ dx → s.heap.get? b = some x → (s.heap.update dx (Obj.putName attr H (.str attr (s.toks)) v)).get? b = some x := fun b x hb e => (Heap.get?_update_other _ _ (Ne.symm hb)).trans e
  have kt := IsTup.keepBut keep (fun items => (S.hr.own _ u.mem).noTup)
  have P := S.upd (tk := s.toks + 1) u keep ⟨_, es', ep', get', e1, sk, fun y => by
    rw [getN_set n g y, fnd y]
    by_cases e : y = attr
    · rw [if_pos e, if_pos e]; exact ⟨v, rfl, r.keep kt⟩
    · rw [if_neg e, if_neg e]; exact (h5 y).keep kt, sz⟩
  refine wpAny_bind (wpAny_lookBehind get' (by rw [e1]; exact pastItsLine_dict szz) (wpAny_pure ?_))
  exact q _ P.1 P.2
end
open PySem PySem.W PySem.Calls PyProof.Rows PySem.SeqAt
open Builtin Builtin.ObjectAttr
section
variable {prog : Program} {w : World} {A : Around} {E : Value → Shared → Prop} {K : Frag} {C x : Addr} {s : Shared} {ox : Obj} {od : Option Obj} {name : Str} {v : Value} {expr : Bool} {Q : Value → Shared → Prop}
theorem exc_get (X : K.In s.heap) (I : InstAt s.heap x ox C od) (W : StE K C) (hf : findObj K C od name = some (.value v)) (hh : handedIn v = true) (h : Q v { s with toks := s.toks + 1 }) :
    wpAny (model prog w) A (getAttr (.ref x) name expr) Q E s := by
  obtain ⟨cd, hc, ho⟩ := any_some W.over
  obtain ⟨c1, c2, hmro⟩ := overMro_ex ho
  have ne : cd.mro.isEmpty = false := by rw [hmro]; rfl
  have has : cd.mro.contains (.type "BaseException") = true := by rw [hmro]; simp
  have sub : Looks (model prog w) s.heap (isInstance (.ref x) (.type "BaseException")) true := I.type.andThen (looks_mroIn X (by unfold mroIn; rw [hc, Option.bind_some, if_neg (by rw [ne]; decide), has]))
  have GA := PySem.F.attr_Exception.ga
  obtain ⟨hp, g, d, t, os⟩ := s
  have L0 := I.type (M := model prog w)
  have L1 := looks_findIn (M := model prog w) X W.get
  have L2 := looks_findIn (M := model prog w) X W.hook
  have L3 := looks_find (M := model prog w) X I hf
  unfold getAttr getAttrBy
  refine wpAny_bind (wpAny_mkText (wpAny_holding (wpAny_bind (L0.at (wpAny_bind (L1.at ?_))))))
  dsimp only
  rw [if_neg (by rw [show (Value.builtin "BaseException.__getattribute__" == Value.builtin "object.__getattribute__") = false from by decide +kernel, Bool.and_false]; decide)]
  unfold getAttrByItsOwn hookBefore
  refine wpAny_bind ?_
  rw [if_pos (by rfl)]
  refine L2.at (wpAny_bind (wpAny_attempt (wpAny_holding ?_)))
  unfold callGetattribute
  rw [if_neg (by cases expr <;> decide +kernel)]
  unfold boundAndCalled
  rw [GA.bind]
  refine wpAny_bind (wpAny_pure (wpAny_call ?_))
  refine codeAny_call_builtin GA.plain PySem.F.entry_bexc_ga (@check_slot (model prog w) _ _ _ "BaseException.__getattribute__" "BaseException" "__getattribute__" (.ref x) [.str name t] [] _ (by decide +kernel) (by decide +kernel) sub (PySem.F.args_bexc_ga _ _) ?_)
  unfold Builtin.«object.__getattribute__»
  refine wpAny_bind (wpAny_pure (wpAny_bind (wpAny_pure (wpAny_bind (L0.at (wpAny_bind (L3.at ?_)))))))
  refine wpAny_pure ?_
  show wpAny _ _ (handedOut v) _ _ _
  rw [handedOut_of hh]; exact wpAny_pure h
end
section
variable {X : Fx} {m : Loc} {σ : Hp} {EQ : EPost} {Q : AV → Hp → Prop} {QS : AF → Loc → Hp → Prop}
theorem Op1.held {x C dx : Addr} {attr : Str} {names : List Str} {vals : List (Option AV)} {i : Nat} {a : AV} (hx : (x, .held C dx) ∈ σ) (hd : (dx, .ns names vals) ∈ σ) (c : AtE X.G.K C names attr i) (W : StE X.G.K C)
    (g : GetAt vals i a) (k : a.known = true) (q : Q a σ) : Op1 X m σ EQ (fun v => getAttr v attr true) (.ref x) Q := by
  intro v s S r
  obtain rfl := r.refE
  obtain ⟨ob, vs, h1, hc, hdi, hda⟩ := S.hr.own _ hx
  obtain ⟨o, es, ep, h2, h3, h4, h5, h6⟩ := S.hr.own _ hd
  have I : InstAt s.heap x ob C (some o) := ⟨h1, hc, by unfold notCls; rw [hda], by rw [hdi]; exact h2⟩
  have hf := h5 attr
  rw [getN_get c.ix g] at hf
  obtain ⟨w, hw, rw⟩ := hf
  exact exc_get S.kin I W (findObj_own (od := o) c.dict c.fnd rfl (by rw [lookIn_ns h3 h4, hw])) (handed_known rw k) (doneT S rw q)
theorem setE {x C dx : Addr} {attr : Str} {names : List Str} {vals vals' : List (Option AV)} {i : Nat} {a : AV} {v : Value} {s : Shared} {σ' : Hp} {R : Unit → Shared → Prop} {E : Value → Shared → Prop}
    (S : St X m σ s) (hx : (x, .exc C (some dx)) ∈ σ) (u : UpdL dx (.ns names vals) (.ns names vals') σ σ') (c : AtE X.G.K C names attr i) (W : StE X.G.K C) (g : SetAt vals i a vals') (hz : vals.length ≤ 900) (hi : i ≤ 900)
    (r : VR s.heap a v) (q : ∀ s', St X m σ' s' → Step X.L σ σ' s.heap s'.heap → R () s') : wpAny X.M X.A (setAttr (.ref x) attr v) R E s := by
  obtain ⟨t, h1⟩ := S.hr.own _ hx
  have h1 : s.heap.get? x = some (excObj C (some dx) t) := h1
  obtain ⟨o, es, ep, h2, h3, h4, h5, h6⟩ := S.hr.own _ u.mem
  have I : InstAt s.heap x (excObj C (some dx) t) C (some o) := ⟨h1, rfl, rfl, h2⟩
  have X1 := S.kin
  refine set_plain X1 I W.set ?_
  have ht : takerIn X.G.K C attr = some none := by unfold takerIn; rw [c.fnd]; rfl
  refine osa_exc (s := { s with toks := s.toks + 1 }) X1 I W.over ht fun b => ?_
  obtain ⟨cd, hc, hd'⟩ := any_some c.dict
  refine wpAny_bind (wpAny_pure (wpAny_bind (wpAny_bind (wpAny_loadPart I.at_ (wpAny_bind ((looks_clsIn (M := model X.G.prog X.G.w) X1 hc) _ _ _ _ (fun _ _ e => e) ?_))))))
  rw [hd']
  refine wpAny_pure (a := some dx) ?_
  exact store_ns (s := { s with toks := s.toks + 1 }) (S.toks _) u c.ix g hz hi r fun s' S' P' => q s' S' P'
theorem setE0 {x C : Addr} {attr : Str} {names : List Str} {vals' : List (Option AV)} {i : Nat} {a : AV} {v : Value} {s : Shared} {R : Unit → Shared → Prop} {E : Value → Shared → Prop}
    (S : St X m σ s) (hx : (x, .exc C none) ∈ σ) (c : AtE X.G.K C names attr i) (W : StE X.G.K C) (g : SetAt [] i a vals') (hi : i ≤ 900)
    (r : VR s.heap a v) (q : ∀ dx, ∃ σ', UpdL x (.exc C none) (.exc C (some dx)) σ σ' ∧ ∀ s', St X m ((dx, .ns names vals') :: σ') s' → Step X.L σ ((dx, .ns names vals') :: σ') s.heap s'.heap → R () s') : wpAny X.M X.A (setAttr (.ref x) attr v) R E s := by
  obtain ⟨t, h1⟩ := S.hr.own _ hx
  have h1 : s.heap.get? x = some (excObj C none t) := h1
  have I : InstAt s.heap x (excObj C none t) C none := ⟨h1, rfl, rfl, trivial⟩
  have X1 := S.kin
  refine set_plain X1 I W.set ?_
  have ht : takerIn X.G.K C attr = some none := by unfold takerIn; rw [c.fnd]; rfl
  refine osa_exc (s := { s with toks := s.toks + 1 }) X1 I W.over ht fun b => ?_
  obtain ⟨cd, hc, hd'⟩ := any_some c.dict
  refine wpAny_bind (wpAny_pure (wpAny_bind (wpAny_bind (wpAny_loadPart I.at_ (wpAny_bind ((looks_clsIn (M := model X.G.prog X.G.w) X1 hc) _ _ _ _ (fun _ _ e => e) ?_))))))
  rw [hd']
  have k : ∀ b o, s.heap.get? b = some o → (s.heap.push emptyDict).get? b = some o := fun b o e => Heap.get?_push_of_some _ e
  have P1 := (S.toks (s.toks + 1)).alloc (tk := s.toks + 1) (a := s.heap.objs.size) (ao := .ns names []) k (Heap.get?_none_of_le (Nat.le_refl _)) S.two
    ⟨emptyDict, #[], 0, Heap.get?_push_size _ rfl, rfl, fun e he => by simp at he, fun y => by
      have : getN names [] y = none := by unfold getN; cases names.findIdx? (· == y) <;> simp
      rw [this]; rfl, by simp⟩
  obtain ⟨σ', u, q⟩ := q s.heap.objs.size
  have hx₁ := k _ _ h1
  have gx := Heap.get?_update_self (fun o : Obj => { o with dict := some s.heap.objs.size }) hx₁ rfl
  have P2 := P1.1.upd (tk := s.toks + 1) (h' := (s.heap.push emptyDict).update x fun o => { o with dict := some s.heap.objs.size }) (.there u) (fun b o hb e => (Heap.get?_update_other _ _ (Ne.symm hb)).trans e) ⟨t, gx⟩
  refine wpAny_bind (wpAny_alloc' (wpAny_bind (wpAny_update' hx₁ (wpAny_pure (a := some s.heap.objs.size) ?_))))
  have kt := IsTup.keepAll k
  have rv : VR ((s.heap.push emptyDict).update x fun o => { o with dict := some s.heap.objs.size }) a v := P1.1.vr P2.2 (r.keep kt)
  exact store_ns P2.1 .here c.ix g (by simp) hi rv fun s' S' P' => q s' S' ((P1.2.trans P2.2).trans P')
theorem Xs.setAttrE {o value : Expr} {attr : Str} {pos' pos : Pos} (hc : noComp value = true)
    (h : Ev X (eval value X.env) m σ EQ fun a σ₁ => Ev X (eval o X.env) m σ₁ EQ fun ov σ₂ => ∃ x C dx names vals vals' i σ', ov = .ref x ∧ (x, .exc C (some dx)) ∈ σ₂ ∧ UpdL dx (.ns names vals) (.ns names vals') σ₂ σ' ∧ AtE X.G.K C names attr i ∧ StE X.G.K C ∧ SetAt vals i a vals' ∧
      vals.length ≤ 900 ∧ i ≤ 900 ∧ QS .next m σ') : Xs X (exec (.Assign [.Attribute o attr pos'] value pos) X.env) m σ EQ QS := by
  intro s S
  refine plainObj_wpAny_Assign_Attribute (ev_then (h s S) (fun v s₁ a σ₁ r₁ S₁ P₁ h₁ => ?_) fun _ _ e => e) (swaps_no hc)
  refine ev_then (h₁ s₁ S₁) (fun w s₂ b σ₂ r₂ S₂ P₂ h₂ => ?_) fun _ _ e => e.trans P₁
  obtain ⟨x, C, dx, names, vals, vals', i, σ', rfl, hx, u, c, wc, g, hz, hi, q⟩ := h₂
  obtain rfl := r₂.refE
  exact setE S₂ hx u c wc g hz hi (S₁.vr P₂ r₁) fun s' S' P' => ⟨.next, m, σ', rfl, S', (P₁.trans P₂).trans P', q⟩
theorem Xs.setAttrE0 {o value : Expr} {attr : Str} {pos' pos : Pos} (hc : noComp value = true)
    (h : Ev X (eval value X.env) m σ EQ fun a σ₁ => Ev X (eval o X.env) m σ₁ EQ fun ov σ₂ => ∃ x C names vals' i, ov = .ref x ∧ (x, .exc C none) ∈ σ₂ ∧ AtE X.G.K C names attr i ∧ StE X.G.K C ∧ SetAt [] i a vals' ∧
      i ≤ 900 ∧ ∀ dx, ∃ σ', UpdL x (.exc C none) (.exc C (some dx)) σ₂ σ' ∧ QS .next m ((dx, .ns names vals') :: σ')) : Xs X (exec (.Assign [.Attribute o attr pos'] value pos) X.env) m σ EQ QS := by
  intro s S
  refine plainObj_wpAny_Assign_Attribute (ev_then (h s S) (fun v s₁ a σ₁ r₁ S₁ P₁ h₁ => ?_) fun _ _ e => e) (swaps_no hc)
  refine ev_then (h₁ s₁ S₁) (fun w s₂ b σ₂ r₂ S₂ P₂ h₂ => ?_) fun _ _ e => e.trans P₁
  obtain ⟨x, C, names, vals', i, rfl, hx, c, wc, g, hi, q⟩ := h₂
  obtain rfl := r₂.refE
  exact setE0 S₂ hx c wc g hi (S₁.vr P₂ r₁) fun dx => by
    obtain ⟨σ', u, q⟩ := q dx
    exact ⟨σ', u, fun s' S' P' => ⟨.next, m, _, rfl, S', (P₁.trans P₂).trans P', q⟩⟩
end
open PySem PySem.W PySem.Calls PyProof.Rows PySem.SeqAt
theorem CallR.go'' {G : Gl} {n : Nat} {a : Addr} {fd : FuncData} {ps ls' gs : List Str} {body : List Stmt} {args : List AV} {σ : Hp} {C : Addr} {EQ : Addr → Hp → Prop} (F : FnIn G.K a fd ps ls' gs body) (g : GOk G) (hl : args.length = ps.length)
    (h : ∀ X : Fx, X.G = G → X.n = n → ∀ p, X.R = some p → Lcs X.fd 0 (ps ++ ls') → Gbs X.fd gs → Xs X (execs body X.env) (padL args ls') σ (ExB X C (fun _ => True) EQ) (fun _ _ _ => False)) : CallR G (n + 1) (.ref a) args σ C EQ :=
  .enterB F.ok g (fun h vals s X r => F.ps s vals X (by rw [r.length, hl])) hl fun L A p => fun s S => h (.mk0 G fd L a A n (some p)) rfl rfl p rfl F.nm.lcs F.nm.gbs s (S.pad _)
section
variable {X : Fx} {m : Loc} {σ : Hp} {C : Addr} {PM : Loc → Prop} {EQ : Addr → Hp → Prop} {Q : AV → Hp → Prop}
theorem Cl.fnR' {n : Nat} {a : Addr} {l : List AV} {p : Pst} (hp : X.R = some p) (h : CallR X.G n (.ref a) l σ C EQ) (hn : n ≤ X.n) (hm : PM m) : Cl X m σ (ExB X C PM EQ) (.ref a) l Q := .fnR hp (h.mono hn) hm
theorem Op1.heldR {x dx : Addr} {attr : Str} {names : List Str} {vals : List (Option AV)} {i : Nat} {a : AV} (hx : (x, .held C dx) ∈ σ) (hd : (dx, .ns names vals) ∈ σ) (c : AtE X.G.K C names attr i) (W : StE X.G.K C) {E' : EPost}
    (g : GetAt vals i a) (k : a.known = true) (q : Q a σ) : Op1 X m σ E' (fun v => getAttr v attr true) (.ref x) Q := .held hx hd c W g k q
end
open PySem PySem.W PySem.Calls PyProof.Rows PySem.SeqAt
/-! names that a comprehension closes over -/
structure Ck (X : Fx) (x : Str) (c : Addr) : Prop where
  kind : X.env.kindOf x = some .cell
  at_ : X.cells.lookup x = some c
  dbg : (x == ("__debug__" : Str)) = false
section
variable {X : Fx} {m : Loc} {σ : Hp} {EQ : EPost} {Q : AV → Hp → Prop} {QS : AF → Loc → Hp → Prop}
theorem Ev.cell {x : Str} {c : Addr} {a : AV} {pos} (k : Ck X x c) (hm : (c, .cell (some a)) ∈ σ) (q : Q a σ) : Ev X (eval (.Name x pos) X.env) m σ EQ Q := by
  intro s S
  obtain ⟨o, w, ho, hd, hv⟩ := S.hr.own _ hm
  obtain ⟨v, rfl, r⟩ := hv
  exact wpAny_Name (wpAny_loadName_cell (env := X.env) S.ok.kind k.kind k.at_ ⟨o, ho, hd⟩ (done S r q)) k.dbg
theorem store_cell {x : Str} {c : Addr} {v : Value} {a : AV} {v₀ : Option AV} {σ' : Hp} {s : Shared} {R : Unit → Shared → Prop} {E : Value → Shared → Prop} (S : St X m σ s) (k : Ck X x c) (u : UpdL c (.cell v₀) (.cell (some a)) σ σ') (r : VR s.heap a v)
    (q : ∀ s', St X m σ' s' → Step X.L σ σ' s.heap s'.heap → R () s') : wpAny X.M X.A (storeName X.env x v) R E s := by
  obtain ⟨o, w, ho, hd, hv⟩ := S.hr.own _ u.mem
  refine wpAny_storeName_cell (env := X.env) S.ok.kind k.kind k.at_ ⟨o, ho, hd⟩ fun h' hc hs => ?_
  obtain ⟨o', ho', hd'⟩ := hc
  have keep : ∀ b x, b ≠ c → s.heap.get? b = some x → h'.get? b = some x := fun b x hb e => (hs.2 b hb).trans e
  have kt := IsTup.keepBut keep (fun items => (S.hr.own _ u.mem).noTup)
  have P := S.upd (tk := s.toks) u keep ⟨o', _, ho', hd', v, rfl, r.keep kt⟩
  exact q _ P.1 P.2
theorem Xs.assignC {x : Str} {c : Addr} {value : Expr} {pos' pos : Pos} (k : Ck X x c) (hc : noComp value = true)
    (h : Ev X (eval value X.env) m σ EQ fun a σ₁ => ∃ v₀ σ₂, UpdL c (.cell v₀) (.cell (some a)) σ₁ σ₂ ∧ QS .next m σ₂) : Xs X (exec (.Assign [.Name x pos'] value pos) X.env) m σ EQ QS := by
  intro s S
  refine wpAny_Assign_Name (ev_then (h s S) (fun v s₁ a σ₁ r₁ S₁ P₁ h₁ => ?_) fun _ _ e => e) (swaps_no hc)
  obtain ⟨v₀, σ₂, u, q⟩ := h₁
  exact store_cell S₁ k u r₁ fun s' S' P' => ⟨.next, m, σ₂, rfl, S', P₁.trans P', q⟩
end
open PySem PySem.W PySem.Calls PyProof.Rows PySem.SeqAt
/-- the frame of a comprehension -/
noncomputable def Fx.comp (X : Fx) (scope : Scope) (cl : List (Str × Addr)) (C : Addr) : Fx := { X with fd := { X.fd with scope := relabel scope X.env }, L := C, R := none, cells := cl, func := none }
noncomputable def compL (j : Nat) (v : AV) : Loc := List.replicate j none ++ [some v]
theorem set_compL0 (v : AV) : ∀ j, SetAt [] j v (compL j v)
  | 0 => .nil0
  | j + 1 => .nilS (set_compL0 v j)
theorem set_compL (p v : AV) : ∀ j, SetAt (compL j p) j v (compL j v)
  | 0 => .here
  | j + 1 => .there (set_compL p v j)
structure CompOk (X : Fx) (scope : Scope) (cl : List (Str × Addr)) (x : Str) (j : Nat) : Prop where
  clos : closureFor scope X.env = pure cl
  cell : ∀ y ∈ scope.names, y.2 ≠ .cell
  kind : scope.kind = .function
  names : ∀ y ∈ scope.names, y.2 = .local → scope.names.lookup y.1 = some .local
  x_ : scope.names.lookup x = some .local
  ix : NIx (scope.names.map (·.1)) x j
  dbg : (x == ("__debug__" : Str)) = false
section
variable {X : Fx} {m : Loc} {σ σ₂ : Hp} {EQ : EPost} {Q : AV → Hp → Prop} {QS : AF → Loc → Hp → Prop} {scope : Scope} {cl : List (Str × Addr)} {x : Str} {j N : Nat} {px pos : Pos} {elt iter : Expr} {vals : Nat → AV} {es : List AV} {it : Addr} {IS : Nat → Heap → Prop}
theorem relabel_names {e : Env} : (relabel scope e).names.map (·.1) = scope.names.map (·.1) := by
  unfold relabel
  rw [List.map_map]
  refine List.map_congr_left fun p _ => ?_
  obtain ⟨n, k⟩ := p
  show (if _ then _ else _ : Str × NameKind).1 = n
  split <;> rfl
theorem CompOk.lc (K : CompOk X scope cl x j) (C : Addr) : Lc (X.comp scope cl C).fd x j where
  ix := by
    show NIx ((relabel scope X.env).names.map (·.1)) x j
    rw [relabel_names]; exact K.ix
  kind := lookup_relabel_local K.x_
  dbg := K.dbg
/-- what stands at the comprehension's end -/
structure CompEnd (X : Fx) (scope : Scope) (cl : List (Str × Addr)) (it : Addr) (σ₂ : Hp) (es : List AV) (h₂ : Heap) (D C : Addr) (s' : Shared) : Prop where
  st : ∃ m', St (X.comp scope cl C) m' ((D, .list es) :: σ₂) s'
  keep : ∀ b o, b ∉ σ₂.map (·.1) → b ≠ it → h₂.get? b = some o → s'.heap.get? b = some o
  newC : h₂.get? C = none
  newD : h₂.get? D = none
  ne : C ≠ D
theorem comp_core {s₂ : Shared} {RR : Value → Addr → Result → Shared → Prop} {E : Value → Shared → Prop} (K : CompOk X scope cl x j) (hN : es.length = N) (hz : N ≤ 1000) (S₂ : St X m σ₂ s₂) (n1 : it ∉ σ₂.map (·.1)) (n3 : X.G.W0.get? it = none) (nlt : it < s₂.heap.objs.size)
    (hkeep : ∀ i h h', IS i h → (∀ o, h.get? it = some o → h'.get? it = some o) → (∀ a items, IsTup h a items → IsTup h' a items) → IS i h') (hex : ∀ i h, IS i h → ∃ o, h.get? it = some o ∧ o.cls ≠ .type "tuple")
    (hnext : ∀ (X' : Fx) i m D acc s, X'.G = X.G → X'.A = X.A → i < N → St X' m ((D, .list acc) :: σ₂) s → IS i s.heap → ∀ R E, (∀ v h' tk, IS (i + 1) h' → Heap.SameBut it s.heap h' → VR s.heap (vals i) v → R (some v) { s with heap := h', toks := tk }) → wpAny X.M X.A (pyNext (.ref it)) R E s)
    (hend : ∀ (X' : Fx) m D acc s, X'.G = X.G → X'.A = X.A → St X' m ((D, .list acc) :: σ₂) s → IS N s.heap → ∀ R E, (∀ h', Heap.ExtBut it s.heap h' → R none { s with heap := h' }) → wpAny X.M X.A (pyNext (.ref it)) R E s)
    (hself : ∀ s Q E, IS 0 s.heap → Q (.ref it) s → wpAny X.M X.A (pyIter (.ref it)) Q E s)
    (helt : ∀ C D acc i, i < N → Ev (X.comp scope cl C) (eval elt (X.comp scope cl C).env) (compL j (vals i)) ((D, .list acc) :: σ₂) NoE fun a σ' => es[i]? = some a ∧ σ' = (D, .list acc) :: σ₂)
    (hi0 : IS 0 s₂.heap) (hRR : ∀ D C s', CompEnd X scope cl it σ₂ es s₂.heap D C s' → RR (.ref D) C (.ok .next) s') :
    wpAny X.M X.A (newList []) (fun acc s₃ => wpAny X.M X.A (newFunctionEnv scope X.env.globals cl [] X.env.qual none .none (some X.env)) (fun cenv s₄ =>
      codeAny X.M X.A (.compStart (.ListComp elt [⟨.Name x px, iter, [], 0⟩] scope pos) 0 (.ref it) acc { cenv with scope := relabel scope X.env }) (RR acc cenv.locals) s₄) E s₃) E s₂ := by
  refine wpAny_newObj_type (wpAny_newFunctionEnv K.cell (by intro y hy; simp at hy) (fun h₁ hns₁ hsb₁ => ?_) K.kind)
  dsimp only at hns₁ hsb₁ ⊢
  generalize hH2 : s₂.heap.push { cls := .type "list", dict := none, data := .seq ([] : List Value).toArray } = H2 at hns₁ hsb₁ ⊢
  have hC : H2.objs.size = s₂.heap.objs.size + 1 := by rw [← hH2, Heap.size_push]
  have old2 : ∀ b o, s₂.heap.get? b = some o → H2.get? b = some o := fun b o e => hH2 ▸ Heap.get?_push_of_some _ e
  have hDC : s₂.heap.objs.size ≠ H2.objs.size := by rw [hC]; exact Nat.ne_of_lt (Nat.lt_succ_self _)
  have below : ∀ b, b < s₂.heap.objs.size → b ≠ H2.objs.size ∧ b ≠ s₂.heap.objs.size := fun b hb => ⟨by rw [hC]; exact Nat.ne_of_lt (Nat.lt_succ_of_lt hb), Nat.ne_of_lt hb⟩
  have old : ∀ b o, s₂.heap.get? b = some o → h₁.get? b = some o := fun b o e => hsb₁.extBut b o (below b (Heap.lt_size e)).1 (Heap.get?_push_of_some _ (old2 b o e))
  have hD : h₁.get? s₂.heap.objs.size = some { cls := .type "list", data := .seq #[] } := hsb₁.extBut _ _ hDC (Heap.get?_push_of_some _ (hH2 ▸ Heap.get?_push_size _ rfl))
  have fresh : ∀ a, s₂.heap.objs.size ≤ a → s₂.heap.get? a = none := fun a ha => Heap.get?_none_of_le ha
  have kt := IsTup.keepAll old
  have w0 : ∀ a, s₂.heap.objs.size ≤ a → X.G.W0.get? a = none := fun a ha => by
    cases q : X.G.W0.get? a with
    | none => rfl
    | some o => have := S₂.hr.base _ _ q; rw [fresh a ha] at this; cases this
  have nσ : ∀ a, s₂.heap.objs.size ≤ a → a ∉ σ₂.map (·.1) := fun a ha q => by
    obtain ⟨o, _, r⟩ := S₂.hr.own_of q
    obtain ⟨ob, r⟩ := r.there
    rw [fresh a ha] at r; cases r
  have two := S₂.two
  have hCle : s₂.heap.objs.size ≤ H2.objs.size := by rw [hC]; exact Nat.le_succ _
  have ok : FxOk (X.comp scope cl H2.objs.size) := ⟨S₂.ok.g, S₂.ok.room, K.kind, S₂.ok.glob, S₂.ok.blt, Nat.le_trans two hCle, fun p hp => by cases hp⟩
  have H₁ : HRel X.G ((s₂.heap.objs.size, .list []) :: σ₂) h₁ := by
    refine ⟨fun p hp => ?_, ?_, fun b o e => old b o (S₂.hr.base b o e), fun p hp => ?_, fun p hp => ?_⟩
    · rcases List.mem_cons.mp hp with rfl | hp
      · exact ⟨[], 0, hD, .nil⟩
      · exact (S₂.hr.own p hp).keep kt (old p.1)
    · simp only [List.map_cons, List.nodup_cons]; exact ⟨nσ _ (Nat.le_refl _), S₂.hr.nd⟩
    · rcases List.mem_cons.mp hp with rfl | hp
      · exact w0 _ (Nat.le_refl _)
      · exact S₂.hr.apart p hp
    · rcases List.mem_cons.mp hp with rfl | hp
      · exact two
      · exact S₂.hr.lo p hp
  have nCσ : H2.objs.size ∉ ((s₂.heap.objs.size, AO.list []) :: σ₂).map (·.1) := by
    simp only [List.map_cons, List.mem_cons, not_or]; exact ⟨hDC.symm, nσ _ hCle⟩
  have S₁ : St (X.comp scope cl H2.objs.size) [] ((s₂.heap.objs.size, .list []) :: σ₂) { s₂ with heap := h₁, toks := s₂.toks + ([] : List (Str × Value)).length } := by
    refine ⟨ok, H₁, ⟨_, hns₁, fun y => ?_⟩, nCσ, w0 _ hCle, S₂.gens, S₂.os, fun p hp => by cases hp⟩
    have : getN (X.comp scope cl H2.objs.size).names [] y = none := by unfold getN; cases (X.comp scope cl H2.objs.size).names.findIdx? (· == y) <;> simp
    rw [this]; rfl
  have hi1 : IS 0 h₁ := hkeep _ _ _ hi0 (fun o e => old _ _ e) kt
  have itD : it ≠ s₂.heap.objs.size := (below it nlt).2
  have itC : it ≠ H2.objs.size := (below it nlt).1
  have nit : ∀ acc, it ∉ ((s₂.heap.objs.size, AO.list acc) :: σ₂).map (·.1) := fun acc => by
    simp only [List.map_cons, List.mem_cons, not_or]; exact ⟨itD, n1⟩
  have loop : ∀ s₃ : Shared, s₃ = { s₂ with heap := h₁, toks := s₂.toks + ([] : List (Str × Value)).length } →
      codeAny X.M X.A (.compLoop (.ListComp elt [⟨.Name x px, iter, [], 0⟩] scope pos) 0 (.ref it) (.ref s₂.heap.objs.size) (compEnvC scope cl H2.objs.size X.env)) (RR (.ref s₂.heap.objs.size) H2.objs.size) s₃ := by
    rintro s₃ rfl
    refine codeAny_compLoop_list (prog := X.G.prog) (w := X.G.w) (fun n s' => ∃ i m', n = N - i ∧ i ≤ N ∧ (m' = [] ∨ ∃ p, m' = compL j p) ∧ St (X.comp scope cl H2.objs.size) m' ((s₂.heap.objs.size, .list (es.take i)) :: σ₂) s' ∧
      (∀ b o, b ∉ σ₂.map (·.1) → b ≠ it → s₂.heap.get? b = some o → s'.heap.get? b = some o) ∧ IS i s'.heap) ?_ (N - 0) ⟨0, [], rfl, Nat.zero_le _, .inl rfl, S₁, fun b o _ _ e => old b o e, hi1⟩
    rintro n s' ⟨i, m', rfl, hi, hm', S', kp, hI⟩
    obtain ⟨oi, hoi, hcl⟩ := hex i _ hI
    have nt : ∀ items, ¬ IsTup s'.heap it items := by
      rintro items ⟨o, ho, hc, _⟩
      rw [hoi] at ho; cases ho; exact hcl hc
    by_cases hlt : i < N
    · refine hnext (X.comp scope cl H2.objs.size) i m' _ _ s' rfl rfl hlt S' hI _ _ fun v h' tk hI' hs hv => ?_
      have k : ∀ b o, b ≠ it → s'.heap.get? b = some o → h'.get? b = some o := fun b o hb e => (hs.2 b hb).trans e
      have T₁ := S'.alter (tk := tk) k (nit _) itC n3 (fun p hp => by cases hp) nt
      have hv' := hv.keep (IsTup.keepBut k nt)
      have sa : SetAt m' j (vals i) (compL j (vals i)) := by
        rcases hm' with rfl | ⟨p, rfl⟩
        · exact set_compL0 _ _
        · exact set_compL _ _ _
      refine wpAny_assign_Name (store_local (X := X.comp scope cl H2.objs.size) T₁ (K.lc _) sa hv' fun s₄ T₄ P₄ => ?_)
      refine ev_then (helt H2.objs.size _ _ i hlt s₄ T₄) (fun w s₅ a σ₅ r₅ T₅ P₅ h₅ => ?_) fun e s₅ he => (show False from he).elim
      obtain ⟨ha, rfl⟩ := h₅
      have hlen : (es.take i).length = i := by rw [List.length_take, hN]; exact Nat.min_eq_left hi
      refine ev_then (Cl.append (X := X.comp scope cl H2.objs.size) (EQ := NoE) (Q := fun _ σ' => σ' = (s₂.heap.objs.size, .list (es.take i ++ [a])) :: σ₂) .here (by rw [hlen]; omega) rfl (.builtin "list.append") [.ref s₂.heap.objs.size, w] s₅ T₅ .othI (.cons .refI (.cons r₅ .nil))) (fun w₆ s₆ a₆ σ₆ r₆ T₆ P₆ h₆ => ?_) fun e s₅ he => (show False from he).elim
      subst h₆
      rw [← take_succ_eq ha] at T₆
      have noD : ∀ b o, s₂.heap.get? b = some o → b ≠ s₂.heap.objs.size ∧ b ≠ H2.objs.size := fun b o e => ⟨(below b (Heap.lt_size e)).2, (below b (Heap.lt_size e)).1⟩
      have outσ : ∀ acc b o, b ∉ σ₂.map (·.1) → s₂.heap.get? b = some o → b ∉ ((s₂.heap.objs.size, AO.list acc) :: σ₂).map (·.1) := fun acc b o hb e => by
        simp only [List.map_cons, List.mem_cons, not_or]; exact ⟨(noD b o e).1, hb⟩
      refine ⟨N - (i + 1), Nat.sub_lt_sub_left hlt (Nat.lt_succ_self i), i + 1, _, rfl, by omega, .inr ⟨_, rfl⟩, T₆, fun b o hb hbi e => ?_, ?_⟩
      · exact P₆.keep b o (outσ _ b o hb e) (noD b o e).2 (P₅.keep b o (outσ _ b o hb e) (noD b o e).2 (P₄.keep b o (outσ _ b o hb e) (noD b o e).2 (k b o hbi (kp b o hb hbi e))))
      · exact hkeep _ _ _ hI' (fun o e => P₆.keep it o (nit _) itC (P₅.keep it o (nit _) itC (P₄.keep it o (nit _) itC e))) fun a items t => T₅.tups P₆ a items (T₄.tups P₅ a items (T₁.tups P₄ a items t))
    · have : i = N := by omega
      subst this
      refine hend (X.comp scope cl H2.objs.size) m' _ _ s' rfl rfl S' hI _ _ fun h' he => ?_
      have k : ∀ b o, b ≠ it → s'.heap.get? b = some o → h'.get? b = some o := fun b o hb e => he b o hb e
      have T₁ := S'.alter (tk := s'.toks) k (nit _) itC n3 (fun p hp => by cases hp) nt
      rw [← hN, List.take_length] at T₁
      exact hRR _ _ _ ⟨⟨_, T₁⟩, fun b o hb hbi e => k b o hbi (kp b o hb hbi e), fresh _ hCle, fresh _ (Nat.le_refl _), hDC.symm⟩
  exact codeAny_compStart_list (loop _ rfl) (hself _ _ _ hi1 (loop _ rfl))
/-- back in the frame -/
theorem CompEnd.back {s₁ s₂ s' : Shared} {D C : Addr} (Z : CompEnd X scope cl it σ₂ es s₂.heap D C s') (S₁ : St X m σ s₁) (S₂ : St X m σ₂ s₂) (n1 : it ≠ X.L) (nt : ∀ items, ¬ IsTup s₂.heap it items) (n2 : s₁.heap.get? it = none) (n3 : ∀ b, s₂.heap.get? b = none → s₁.heap.get? b = none) (P : Step X.L σ σ₂ s₁.heap s₂.heap) :
    St X m ((D, .list es) :: σ₂) s' ∧ Step X.L σ ((D, .list es) :: σ₂) s₁.heap s'.heap ∧ C ∉ ((D, AO.list es) :: σ₂).map (·.1) ∧ C ≠ X.L ∧ X.G.W0.get? C = none ∧ (∀ items, ¬ IsTup s'.heap C items) ∧ (∃ m', s'.heap.Ns C m') ∧ (∀ p, X.R = some p → C ∈ p.2.1 ∨ p.2.2.get? C = none) ∧ s₁.heap.get? C = none := by
  obtain ⟨⟨m', T⟩, kp, nC, nD, ne⟩ := Z
  have hns2 := S₂.ns
  obtain ⟨mr, ⟨oL, esL, ep, hL, hdL, z⟩, w⟩ := S₂.ns
  have hL' := kp X.L oL S₂.noL n1.symm hL
  have DL : X.L ≠ D := fun q => by rw [q, nD] at hL; cases hL
  have kt : ∀ a items, IsTup s₂.heap a items → IsTup s'.heap a items := by
    rintro a items t
    have na : a ∉ σ₂.map (·.1) := fun q => by obtain ⟨o, _, r⟩ := S₂.hr.own_of q; exact r.noTup t
    have hne : a ≠ it := by rintro rfl; exact nt items t
    obtain ⟨o, ho, r⟩ := t
    exact ⟨o, kp a o na hne ho, r⟩
  have fresh1 : ∀ b, s₂.heap.get? b = none → b ∈ σ.map (·.1) ∨ s₁.heap.get? b = none := fun b hb => by
    by_cases hq : b ∈ σ.map (·.1)
    · exact .inl hq
    · refine .inr ?_
      cases hs : s₁.heap.get? b with
      | none => rfl
      | some o =>
        have hbL : b ≠ X.L := by rintro rfl; rw [hL] at hb; cases hb
        rw [P.keep b o hq hbL hs] at hb; cases hb
  have P' : Step X.L σ ((D, .list es) :: σ₂) s₁.heap s'.heap := by
    refine ⟨fun b o hb hbL e => ?_, fun b hb => ?_, ?_⟩
    · refine kp b o (fun q => ?_) (fun q => by rw [q, n2] at e; cases e) (P.keep b o hb hbL e)
      rcases P.new b q with h | h
      · exact hb h
      · rw [e] at h; cases h
    · simp only [List.map_cons, List.mem_cons] at hb
      rcases hb with rfl | hb
      · exact fresh1 _ nD
      · exact P.new b hb
    · simp only [List.map_cons, List.mem_cons, not_or]; exact ⟨DL, S₂.noL⟩
  have nC1 : s₁.heap.get? C = none := n3 C nC
  obtain ⟨mr', ⟨oC, esC, epC, hCh, hCd, zC⟩, wC⟩ := T.ns
  refine ⟨⟨S₂.ok, T.hr, hns2.keep kt (fun o e => kp X.L o S₂.noL n1.symm e), P'.noL, S₂.newL, T.gens, T.os, S₁.frs' P'⟩, P', T.noL, fun q => ?_, T.newL, fun items t => T.ns.noTup t, ⟨_, ⟨oC, esC, epC, hCh, hCd, zC⟩⟩, fun p hp => (S₁.frs p hp).fresh nC1, nC1⟩
  rw [q, hL] at nC; cases nC
/-- what a comprehension goes through -/
noncomputable def SrcR (X : Fx) (σ : Hp) (r : AV) (σ₂ : Hp) (N : Nat) (vals : Nat → AV) : Prop := ∃ y a b, r = .ref y ∧ σ = (y, .rng a b) :: σ₂ ∧ -(2 ^ 60) ≤ a ∧ a ≤ 2 ^ 60 ∧ -(2 ^ 60) ≤ b ∧ b ≤ 2 ^ 60 ∧ N = (b - a).toNat ∧ ∀ i : Nat, vals i = .int (a + i)
noncomputable def SrcL (X : Fx) (σ : Hp) (r : AV) (σ₂ : Hp) (N : Nat) (vals : Nat → AV) : Prop := ∃ y l, r = .ref y ∧ σ₂ = σ ∧ (y, AO.list l) ∈ σ ∧ N = l.length ∧ ∀ i, vals i = l.getD i .none
noncomputable def EltOk (X : Fx) (scope : Scope) (cl : List (Str × Addr)) (j : Nat) (elt : Expr) (σ₂ : Hp) (N : Nat) (vals : Nat → AV) (es : List AV) : Prop :=
  ∀ C D acc i, i < N → Ev (X.comp scope cl C) (eval elt (X.comp scope cl C).env) (compL j (vals i)) ((D, .list acc) :: σ₂) NoE fun a σ' => es[i]? = some a ∧ σ' = (D, .list acc) :: σ₂
theorem comp_src {s₁ : Shared} {E : Value → Shared → Prop} {use : Option (Value → Sem Unit)} {r : AV} {v : Value} {R : Value → Shared → Prop} (K : CompOk X scope cl x j) (hX : X.n ≠ 0) (S₁ : St X m σ s₁) (rv : VR s₁.heap r v) (src : SrcR X σ r σ₂ N vals ∨ SrcL X σ r σ₂ N vals) (hN : es.length = N) (hz : N ≤ 1000)
    (helt : EltOk X scope cl j elt σ₂ N vals es)
    (hq : ∀ D C s', St X m ((D, .list es) :: σ₂) s' → Step X.L σ ((D, .list es) :: σ₂) s₁.heap s'.heap → C ∉ ((D, AO.list es) :: σ₂).map (·.1) → C ≠ X.L → X.G.W0.get? C = none → (∀ items, ¬ IsTup s'.heap C items) → (∃ m', s'.heap.Ns C m') → (∀ p, X.R = some p → C ∈ p.2.1 ∨ p.2.2.get? C = none) → s₁.heap.get? C = none →
      compPost X.M X.A E use R (.ref D) C (.ok .next) s') :
    wpAny X.M X.A (pyIter v) (fun it s₂ => wpAny X.M X.A (newList []) (fun acc s₃ => wpAny X.M X.A (newFunctionEnv scope X.env.globals cl [] X.env.qual none .none (some X.env)) (fun cenv s₄ =>
      codeAny X.M X.A (.compStart (.ListComp elt [⟨.Name x px, iter, [], 0⟩] scope pos) 0 it acc { cenv with scope := relabel scope X.env }) (compPost X.M X.A E use R acc cenv.locals) s₄) E s₃) E s₂) E s₁ := by
  have fresh : s₁.heap.get? s₁.heap.objs.size = none := Heap.get?_none_of_le (Nat.le_refl _)
  obtain ⟨f1, f2, f3, f4⟩ := fresh_not S₁
  have pushed : ∀ (o : Obj) b, (s₁.heap.push o).get? b = none → s₁.heap.get? b = none := fun o b hb => by
    cases q : s₁.heap.get? b with
    | none => rfl
    | some o' => rw [Heap.get?_push_of_some _ q] at hb; cases hb
  rcases src with ⟨y, a, b, rfl, rfl, ha1, ha2, hb1, hb2, rfl, hv⟩ | ⟨y, l, rfl, rfl, hl, rfl, hv⟩
  · obtain rfl := rv.refE
    obtain ⟨t, u, w, hr⟩ := S₁.hr.own (y, .rng a b) (.head _)
    have hr : IsRange s₁.heap y a b 1 t u w := hr
    refine wpAny_pyIter_range hr ?_ ?_
    · exact rngSm ha1 ha2 hb1 hb2
    have le : Le σ₂ ((y, .rng a b) :: σ₂) := ⟨[(y, .rng a b)], by simpa using (List.perm_append_singleton (y, AO.rng a b) σ₂).symm⟩
    have S₂ := S₁.le le
    have Pg := S₂.push { cls := .type "range_iterator", data := .fields #[rawInt a, rawInt (Builtin.Range.rangeSize a b 1), rawInt 1] } (tk := s₁.toks)
    have hit := Heap.get?_push_size s₁.heap (o := { cls := .type "range_iterator", data := .fields #[rawInt a, rawInt (Builtin.Range.rangeSize a b 1), rawInt 1] }) rfl
    have f1' : s₁.heap.objs.size ∉ σ₂.map (·.1) := fun q => f1 (List.mem_cons_of_mem _ q)
    refine comp_core K hN hz (vals := vals) (IS := fun i h => IsRangeIter h s₁.heap.objs.size (a + i) ((b - a).toNat - i) 1) Pg.1 f1' f3 (by rw [Heap.size_push]; exact Nat.lt_succ_self _) ?_ ?_ ?_ ?_ ?_ helt ?_ ?_
    · intro i h h' hI hk _; exact hk _ hI
    · intro i h hI; exact ⟨_, hI, by simp⟩
    · intro X' i m' D acc s' hG hA hi S' hI R E hR
      refine wpAny_pyNext_range_item hI (by omega) fun h' hI' hs' => hR _ _ _ ?_ hs' (by rw [hv]; exact .intI)
      have e1 : a + (i : Int) + 1 = a + ((i + 1 : Nat) : Int) := by omega
      have e2 : ((b - a).toNat : Int) - i - 1 = (b - a).toNat - ((i + 1 : Nat) : Int) := by omega
      rw [e1, e2] at hI'; exact hI'
    · intro X' m' D acc s' hG hA S' hI R E hR
      exact wpAny_pyNext_range_end (S₁.handled hX) hI (by omega) hR
    · intro s Q E hI hQ
      exact (Walks.range (prog := X.G.prog) (w := X.G.w) (S₁.handled hX) s₁.heap.objs.size a 1 (b - a).toNat).self 0 s Q E (by simpa using hI) hQ
    · show IsRangeIter _ _ _ _ _
      have e := rngNat a b
      have e0 : a + ((0 : Nat) : Int) = a := by omega
      rw [← e, e0]; exact hit
    · intro D C s' Z
      obtain ⟨z1, z2, z3, z4, z5, z6, z7, z8, z9⟩ := Z.back S₁ Pg.1 f2 (fun items t => by obtain ⟨o, ho, hc, _⟩ := t; rw [hit] at ho; cases ho; exact absurd hc (by simp)) fresh (pushed _) (Pg.2.of_le le)
      exact hq D C s' z1 z2 z3 z4 z5 z6 z7 z8 z9
  · obtain rfl := rv.refE
    obtain ⟨items, il, z⟩ := LAt.own (G := X.G) hl _ S₁.hr
    refine wpAny_pyIter_list il ?_
    have Pg := S₁.push { cls := .type "list_iterator", data := .fields #[.ref y, .int 0 0] } (tk := s₁.toks)
    have hit := Heap.get?_push_size s₁.heap (o := { cls := .type "list_iterator", data := .fields #[.ref y, .int 0 0] }) rfl
    refine comp_core K hN hz (vals := vals) (IS := fun i h => h.IsListIter s₁.heap.objs.size y i) Pg.1 f1 f3 (by rw [Heap.size_push]; exact Nat.lt_succ_self _) ?_ ?_ ?_ ?_ ?_ helt ⟨_, hit, rfl, rfl⟩ ?_
    · rintro i h h' ⟨o, ho, r⟩ hk _; exact ⟨o, hk _ ho, r⟩
    · rintro i h ⟨o, ho, hc, _⟩; exact ⟨o, ho, by rw [hc]; simp⟩
    · intro X' i m' D acc s' hG hA hi S' hI R E hR
      obtain ⟨it', il', z'⟩ := LAt.own (G := X'.G) (List.mem_cons_of_mem _ hl) _ S'.hr
      obtain ⟨v, hv', rv⟩ := z'.get (List.getElem?_eq_getElem hi)
      refine wpAny_pyNext_list_item hI il' (by simpa using hv') fun h' hI' hs' => hR v h' s'.toks hI' hs' ?_
      rw [hv]; simpa [List.getD_eq_getElem?_getD, List.getElem?_eq_getElem hi] using rv
    · intro X' m' D acc s' hG hA S' hI R E hR
      obtain ⟨it', il', z'⟩ := LAt.own (G := X'.G) (List.mem_cons_of_mem _ hl) _ S'.hr
      exact wpAny_pyNext_list_end (S₁.handled hX) hI il' (by simp [z'.length]) hR
    · intro s Q E hI hQ
      exact wpAny_pyIter_listiter hI hQ
    · intro D C s' Z
      obtain ⟨z1, z2, z3, z4, z5, z6, z7, z8, z9⟩ := Z.back S₁ Pg.1 f2 (fun items t => by obtain ⟨o, ho, hc, _⟩ := t; rw [hit] at ho; cases ho; exact absurd hc (by simp)) fresh (pushed _) Pg.2
      exact hq D C s' z1 z2 z3 z4 z5 z6 z7 z8 z9
theorem Ev.listComp (K : CompOk X scope cl x j) (hs : ∀ x, foldedSetIterable iter X.env x = pure x)
    (h : Ev X (eval iter X.env) m σ EQ fun r σ₁ => ∃ σ₂ N vals es, (SrcR X σ₁ r σ₂ N vals ∨ SrcL X σ₁ r σ₂ N vals) ∧ es.length = N ∧ N ≤ 1000 ∧ EltOk X scope cl j elt σ₂ N vals es ∧ ∀ z, Q (.ref z) ((z, .list es) :: σ₂)) (hX : X.n ≠ 0 := by omega) :
    Ev X (eval (.ListComp elt [⟨.Name x px, iter, [], 0⟩] scope pos) X.env) m σ EQ Q := by
  intro s S
  rw [EvAt, eval_ListComp]
  refine wpAny_comprehension_free (use := none) rfl hs K.clos K.kind K.names (ev_then (h s S) (fun v s₁ r σ₁ r₁ S₁ P₁ h₁ => ?_) fun _ _ e => e)
  obtain ⟨σ₂, N, vals, es, src, hN, hz, helt, q⟩ := h₁
  refine comp_src K hX S₁ r₁ src hN hz helt fun D C s' T P n1 n2 n3 nt hns n4 n5 => ?_
  obtain ⟨m', hn⟩ := hns
  refine ⟨m', hn, fun h' hs' => ?_⟩
  have k : ∀ b o, b ≠ C → s'.heap.get? b = some o → h'.get? b = some o := fun b o hb e => (hs'.2 b hb).trans e
  have T' := T.alter (tk := s'.toks) k n1 n2 n3 n4 nt
  refine ⟨.ref D, _, .refI, T', P₁.trans ⟨fun b o hb hL e => k b o (fun q => by rw [q, n5] at e; cases e) (P.keep b o hb hL e), P.new, P.noL⟩, q D⟩
set_option maxHeartbeats 1000000 in
theorem Xs.assignComp {y : Str} {i : Nat} {py spos : Pos} (K : CompOk X scope cl x j) (l : Lc X.fd y i) (hsw : swapsWith (.ListComp elt [⟨.Name x px, iter, [], 0⟩] scope pos) (some (.Name y py)) spos.line X.env = pure true) (hs : ∀ x, foldedSetIterable iter X.env x = pure x)
    (h : Ev X (eval iter X.env) m σ EQ fun r σ₁ => ∃ σ₂ N vals es, (SrcR X σ₁ r σ₂ N vals ∨ SrcL X σ₁ r σ₂ N vals) ∧ es.length = N ∧ N ≤ 1000 ∧ EltOk X scope cl j elt σ₂ N vals es ∧ ∀ z, ∃ m', SetAt m i (.ref z) m' ∧ QS .next m' ((z, .list es) :: σ₂)) (hX : X.n ≠ 0 := by omega) :
    Xs X (exec (.Assign [.Name y py] (.ListComp elt [⟨.Name x px, iter, [], 0⟩] scope pos) spos) X.env) m σ EQ QS := by
  intro s S
  rw [XsAt, exec_Assign_Name_used _ _ _ _ hsw]
  refine wpAny_bind (wpAny_standAt (wpAny_bind ?_))
  show wpAny _ X.A (do let _ ← comprehension (.ListComp elt [⟨.Name x px, iter, [], 0⟩] scope pos) scope X.env _ (newList []) false (eval iter X.env) (some (PySem.assign (.Name y py) X.env))) _ _ s
  refine wpAny_bind (wpAny_mono (wpAny_comprehension_free (use := some (PySem.assign (.Name y py) X.env)) (Q := fun _ s' => ∃ g m' σ', FR s'.heap g .next ∧ St X m' σ' s' ∧ Step X.L σ σ' s.heap s'.heap ∧ QS g m' σ') (E := EP X σ EQ s) rfl hs K.clos K.kind K.names (ev_then (h s S) (fun v s₁ r σ₁ r₁ S₁ P₁ h₁ => ?_) fun _ _ e => e)) (fun _ s' hq => wpAny_pure (wpAny_pure hq)) fun _ _ e => e)
  obtain ⟨σ₂, N, vals, es, src, hN, hz, helt, q⟩ := h₁
  refine comp_src K hX S₁ r₁ src hN hz helt fun D C s' T P n1 n2 n3 nt hns n4 n5 => ?_
  obtain ⟨mc, hn⟩ := hns
  obtain ⟨m', sa, q⟩ := q D
  show wpAny X.M X.A (PySem.assign (.Name y py) X.env (.ref D)) _ _ _
  refine wpAny_assign_Name (store_local T l sa .refI fun s₃ T₃ P₃ => ?_)
  refine ⟨mc, hn.at' fun o e => P₃.keep C o n1 n2 e, fun h' hs' => ?_⟩
  have k : ∀ b o, b ≠ C → s₃.heap.get? b = some o → h'.get? b = some o := fun b o hb e => (hs'.2 b hb).trans e
  have nt' : ∀ items, ¬ IsTup s₃.heap C items := fun items t => by
    obtain ⟨o, es, ep, hC, hd, _⟩ := hn
    obtain ⟨o', ho', _, n, hd'⟩ := t
    rw [P₃.keep C o n1 n2 hC] at ho'; cases ho'
    rw [hd] at hd'; cases hd'
  have T' := T₃.alter (tk := s₃.toks) k n1 n2 n3 n4 nt'
  have P' := P.trans P₃
  exact ⟨.next, m', _, rfl, T', P₁.trans ⟨fun b o hb hL e => k b o (fun q => by rw [q, n5] at e; cases e) (P'.keep b o hb hL e), P'.new, P'.noL⟩, q⟩
end
open PySem PySem.W PySem.Calls PyProof.Rows PySem.SeqAt
section
variable {X : Fx} {m : Loc} {σ : Hp} {EQ : EPost} {Q : AV → Hp → Prop} {QS : AF → Loc → Hp → Prop}
/-- a dict display of one pair, its key a tuple of ints -/
theorem Ev.dictT1 {ke ve : Expr} {pos : Pos} (hn : 1 ≤ X.n)
    (h : ∀ z, Ev X (eval ke X.env) m ((z, .dT []) :: σ) EQ fun a σ₁ => Ev X (eval ve X.env) m σ₁ EQ fun b σ₂ => ∃ (ks : List Int) (σ₃ : Hp), a = .tup (ks.map .int) ∧ UpdL z (.dT []) (.dT [(ks, b)]) σ₂ σ₃ ∧ Q (.ref z) σ₃) :
    Ev X (eval (.Dict [some ke] [ve] pos) X.env) m σ EQ Q := by
  intro s S
  have hshape : (evalEachOpt [some ke] X.env).zip ((evalEach [ve] X.env).map fun v => do let x ← v; standAt pos; pure x) = [(eval ke X.env, (do let x ← eval ve X.env; standAt pos; pure x : Sem Value))].map fun p => (some p.1, p.2) := rfl
  rw [EvAt, arm_eval_Dict, hshape, dictDisplay_pairs _ (by simp) (by simp)]
  refine wpAny_bind (wpAny_standAt (wpAny_bind ?_))
  unfold subDict
  refine wpAny_bind (wpAny_alloc ?_)
  refine wpAny_bind (wpAny_holding ?_)
  rw [if_pos (by simp)]
  have P := S.alloc (tk := s.toks) (a := s.heap.objs.size) (ao := .dT []) (h' := s.heap.push { cls := .type "dict", data := .dict #[] }) (fun d o e => Heap.get?_push_of_some _ e) (Heap.get?_none_of_le (Nat.le_refl _)) S.two ⟨[], Heap.DictOfH.new _, .nil⟩
  refine wpAny_bind (evalPairs_cons ?_)
  refine wpAny_mono (h s.heap.objs.size _ P.1) (fun kv s₁ ⟨a, σ₁, r₁, S₁, P₁, h₁⟩ => ?_) fun e s' he => EP.trans P.2 he
  refine wpAny_bind (wpAny_mono (h₁ s₁ S₁) (fun vv s₂ ⟨b, σ₂, r₂, S₂, P₂, h₂⟩ => ?_) fun e s' he => EP.trans P.2 (EP.trans P₁ he))
  refine wpAny_bind (wpAny_standAt (wpAny_pure ?_))
  refine evalPairs_nil ?_
  obtain ⟨ks, σ₃, rfl, u, q⟩ := h₂
  have r₁ := S₁.vr P₂ r₁
  obtain ⟨ad, rfl, tk⟩ := ints_key (prog := X.G.prog) (w := X.G.w) r₁
  obtain ⟨r, hd, p⟩ := S₂.hr.own _ u.mem
  cases p
  have hu := S₂.units
  refine wpAny_holding ?_
  rw [List.forIn_cons]
  refine wpAny_bind (wpAny_bind (wpAny_bind (wpAny_dictSet_heap (knd := tupleKind (intKind X.G.prog X.G.w)) (by show X.A.units < cLine; omega) tk hd (fun h' hd' hs => wpAny_pure ?_) (by simp))))
  refine wpAny_pure (wpAny_pure (wpAny_pure (wpAny_pure ?_)))
  have keep : ∀ b x, b ≠ s.heap.objs.size → s₂.heap.get? b = some x → h'.get? b = some x := fun b x hb e => (hs.2 b hb).trans e
  have kt := IsTup.keepBut keep (fun items => (S₂.hr.own _ u.mem).noTup)
  have P₃ := S₂.upd (tk := s₂.toks + (tupleKind (intKind X.G.prog X.G.w)).draws ks) u keep ⟨_, hd', .cons (r₂.keep kt) .nil⟩
  exact ⟨.ref s.heap.objs.size, σ₃, .refI, P₃.1, ((P.2.trans P₁).trans P₂).trans P₃.2, q⟩
/-- (a list of one's own, an int) against the same -/
theorem Op2.neTL {x y : Addr} {a b : Int} {l r : List AV} {n k : Nat} (hx : (x, .list l) ∈ σ) (hy : (y, .list r) ∈ σ) (hxy : x ≠ y) (hl : pls n l = true) (hr : pls k r = true) (hn : n + 2 ≤ 5 * X.n + 20)
    (q : Q (.bool (!(eqvs l r && a == b))) σ) : Op2 X m σ EQ (compareOp .NotEq) (.tup [.ref x, .int a]) (.tup [.ref y, .int b]) Q := by
  intro _ _ s S r₁ r₂
  obtain ⟨c, is, rfl, t, z⟩ := r₁.tupE
  obtain ⟨d, js, rfl, t', z'⟩ := r₂.tupE
  obtain ⟨v1, is', rfl, e1, z⟩ := z.consE
  obtain ⟨v2, is', rfl, e2, z⟩ := z.consE
  obtain rfl := z.nilE
  obtain ⟨w1, js', rfl, f1, z'⟩ := z'.consE
  obtain ⟨w2, js', rfl, f2, z'⟩ := z'.consE
  obtain rfl := z'.nilE
  obtain rfl := e1.refE
  obtain rfl := f1.refE
  obtain ⟨u, rfl⟩ := e2.intE
  obtain ⟨u', rfl⟩ := f2.intE
  obtain ⟨xs, nx, hxl, zx⟩ := S.hr.own _ hx
  obtain ⟨ys, ny, hyl, zy⟩ := S.hr.own _ hy
  have hu := S.units
  have h1 : s.heap.IsList x xs.toArray := ⟨_, hxl, rfl, _, rfl⟩
  have h2 : s.heap.IsList y ys.toArray := ⟨_, hyl, rfl, _, rfl⟩
  have E0 : EqAt X.A.in1 s (.ref x) (.ref y) (eqvs l r) := by
    refine EqAt.of_refs hxy ?_
    by_cases hlen : l.length = r.length
    · have := RcAt.lists (A := X.A.in1) h1 h2 (by simp [zx.length, zy.length, hlen]) (by show X.A.units + 1 < cLine; omega) (e := eqIx l r) (fun j g1 g2 => by
        have g1' : j < l.length := by simpa [zx.length] using g1
        have g2' : j < r.length := by simpa [zy.length] using g2
        rw [eqIx_of g1' g2']
        simpa using eqAts (A := X.A.in1.in1) (s := s) hl hr (by show X.A.units + 1 + 1 + n < cLine; omega) zx zy j g1' g2')
      rw [eqvs_same_len hlen]
      rwa [show xs.toArray.size = l.length by simp [zx.length]] at this
    · rw [eqvs_false_len hlen]
      exact RcAt.lists_lengths (A := X.A.in1) h1 h2 (by simp [zx.length, zy.length, hlen]) (by show X.A.units + 1 < cLine; omega)
  have E1 : EqAt X.A.in1 s (.int a u) (.int b u') (a == b) := EqAt.int_int _ _ _ _
  have := RcNeAt.tuples (A := X.A) t t' (by omega) (e := fun j => if j = 0 then eqvs l r else (a == b)) fun j g1 g2 => by
    have : j < 2 := by simpa using g1
    match j, this with
    | 0, _ => exact E0
    | 1, _ => exact E1
  refine this X.G.prog X.G.w _ _ ?_
  have e : (List.range (min ([Value.ref x, Value.int a u].toArray.size) ([Value.ref y, Value.int b u'].toArray.size))).all (fun j => if j = 0 then eqvs l r else (a == b)) = (eqvs l r && a == b) := by
    show (List.range 2).all _ = _
    simp [List.range_succ]
  rw [e]
  simpa using done S .boolI q
theorem Op2.neTL2 {x y : Addr} {a b : Int} {l r : List AV} {n k : Nat} {σ₂ : Hp} (hl : pls n l = true) (hr : pls k r = true) (hn : n + 2 ≤ 5 * X.n + 20) (q : Q (.bool (!(eqvs l r && a == b))) ((y, .list r) :: (x, .list l) :: σ₂)) :
    Op2 X m ((y, .list r) :: (x, .list l) :: σ₂) EQ (compareOp .NotEq) (.tup [.ref x, .int a]) (.tup [.ref y, .int b]) Q := by
  intro v w s S r₁ r₂
  have nd := S.hr.nd
  simp only [List.map_cons, List.nodup_cons, List.mem_cons, not_or] at nd
  exact Op2.neTL (.tail _ (.head _)) (.head _) (Ne.symm nd.1.1) hl hr hn q v w s S r₁ r₂
end
open PySem PySem.W PySem.Calls PyProof.Rows PySem.SeqAt
/-! names of a block with cells -/
theorem lcK {fd : FuncData} {L : List (Str × NameKind)} (h : fd.scope.names = L) (nd : (("__debug__" : Str) :: L.map (·.1)).Nodup) {x : Str} {i : Nat} (hi : L[i]? = some (x, .local)) : Lc fd x i := by
  have nd' := List.nodup_cons.mp nd
  refine ⟨?_, ?_, ?_⟩
  · show List.findIdx? _ _ = _
    rw [h]
    exact findIdx_of nd'.2 (by rw [List.getElem?_map, hi]; rfl)
  · rw [h]; exact lookup_kind nd'.2 (List.mem_of_getElem? hi)
  · rw [beq_eq_false_iff_ne]; rintro rfl; exact nd'.1 (List.mem_map_of_mem (f := (·.1)) (List.mem_of_getElem? hi))
theorem gbK {fd : FuncData} {L : List (Str × NameKind)} (h : fd.scope.names = L) (nd : (("__debug__" : Str) :: L.map (·.1)).Nodup) {x : Str} (i : Nat) (hi : L[i]? = some (x, .globalImplicit)) : Gb fd x := by
  have nd' := List.nodup_cons.mp nd
  refine ⟨?_, ?_⟩
  · rw [h]; exact lookup_kind nd'.2 (List.mem_of_getElem? hi)
  · rw [beq_eq_false_iff_ne]; rintro rfl; exact nd'.1 (List.mem_map_of_mem (f := (·.1)) (List.mem_of_getElem? hi))
theorem ckK {X : Fx} {L : List (Str × NameKind)} (h : X.fd.scope.names = L) (nd : (("__debug__" : Str) :: L.map (·.1)).Nodup) {x : Str} (i : Nat) (hi : L[i]? = some (x, .cell)) {c : Addr} (hc : X.cells.lookup x = some c) : Ck X x c := by
  have nd' := List.nodup_cons.mp nd
  refine ⟨?_, hc, ?_⟩
  · show X.fd.scope.names.lookup x = _
    rw [h]; exact lookup_kind nd'.2 (List.mem_of_getElem? hi)
  · rw [beq_eq_false_iff_ne]; rintro rfl; exact nd'.1 (List.mem_map_of_mem (f := (·.1)) (List.mem_of_getElem? hi))
/-- a comprehension over one name, that closes over one cell -/
structure Sc1 (scope : Scope) (x y : Str) : Prop where
  names : scope.names = [((".0" : Str), NameKind.local), (x, .local), (y, .free)]
  kind : scope.kind = .function
  nd : (("__debug__" : Str) :: [(".0" : Str), x, y]).Nodup
theorem Sc1.ok {X : Fx} {scope : Scope} {x y : Str} {c : Addr} (S : Sc1 scope x y) (K : Ck X y c) : CompOk X scope [(y, c)] x 1 := by
  have hm : ∀ z ∈ scope.names, z = ((".0" : Str), NameKind.local) ∨ z = (x, NameKind.local) ∨ z = (y, NameKind.free) := fun z hz => by rw [S.names] at hz; simpa using hz
  have nd := S.nd
  simp only [List.nodup_cons, List.mem_cons, not_or] at nd
  obtain ⟨⟨d1, d2, d3, -⟩, ⟨e1, e2, -⟩, ⟨f1, -⟩, -⟩ := nd
  refine ⟨?_, fun z hz => ?_, S.kind, fun z hz hk => ?_, ?_, ?_, ?_⟩
  · unfold closureFor
    rw [S.names]
    have hc : X.env.cells.lookup y = some c := K.at_
    simp [cellOf, hc]
  · rcases hm z hz with rfl | rfl | rfl <;> simp
  · rw [S.names]
    rcases hm z hz with rfl | rfl | rfl
    · simp
    · simp [List.lookup, beq_eq_false_iff_ne.mpr (Ne.symm e1)]
    · cases hk
  · rw [S.names]; simp [List.lookup, beq_eq_false_iff_ne.mpr (Ne.symm e1)]
  · show List.findIdx? _ _ = _
    rw [S.names]
    simp [List.findIdx?_cons, beq_eq_false_iff_ne.mpr e1]
  · exact beq_eq_false_iff_ne.mpr (Ne.symm d2)
theorem Sc1.ck {X : Fx} {scope : Scope} {x y : Str} {c C : Addr} (S : Sc1 scope x y) (K : Ck X y c) (hk : X.fd.scope.kind = .function) : Ck (X.comp scope [(y, c)] C) y c := by
  have nd := S.nd
  simp only [List.nodup_cons, List.mem_cons, not_or] at nd
  obtain ⟨⟨d1, d2, d3, -⟩, ⟨e1, e2, -⟩, ⟨f1, -⟩, -⟩ := nd
  refine ⟨?_, by show List.lookup _ _ = _; simp [List.lookup, Fx.comp], K.dbg⟩
  show List.lookup y (relabel scope X.env).names = _
  unfold relabel
  rw [S.names]
  have hkd : (X.env.scope.kind == ScopeKind.function) = true := by
    show (X.fd.scope.kind == ScopeKind.function) = true
    rw [hk]; rfl
  have hy : X.env.kindOf y = some .cell := K.kind
  have h1 : (y == (".0" : Str)) = false := beq_eq_false_iff_ne.mpr (Ne.symm e2)
  have h2 : (y == x) = false := beq_eq_false_iff_ne.mpr (Ne.symm f1)
  simp [List.lookup, hkd, hy, h1, h2]
theorem swaps_comp {X : Fx} {elt : Expr} {gs : List Comprehension} {scope : Scope} {pos py : Pos} {y : Str} {i line : Nat} (hk : X.fd.scope.kind = .function) (l : Lc X.fd y i) (h1 : (py.line == pos.line) = true) (h2 : (scope.names.any fun (n, k) => n == y && (k == .local || k == .cell)) = false) :
    swapsWith (.ListComp elt gs scope pos) (some (.Name y py)) line X.env = pure true := by
  have e1 : X.env.blockKind = .function := by
    show (if X.fd.scope.kind.isAnnotationScope then ScopeKind.function else X.fd.scope.kind) = _
    rw [hk]; rfl
  have e2 : X.env.kindOf y = some .local := l.kind
  have h1' : (py.line == (Expr.ListComp elt gs scope pos).pos.line) = true := h1
  unfold swapsWith
  simp only [e1, e2, h1', h2]
  rfl
theorem EltOk.of {X : Fx} {scope : Scope} {x y : Str} {c : Addr} {elt : Expr} {σ₂ : Hp} {N : Nat} {vals : Nat → AV} {es : List AV} (S : Sc1 scope x y) (K : Ck X y c) (hk : X.fd.scope.kind = .function)
    (h : ∀ X' : Fx, X'.n = X.n → Lc X'.fd x 1 → Ck X' y c → ∀ D acc i, i < N → Ev X' (eval elt X'.env) [none, some (vals i)] ((D, .list acc) :: σ₂) NoE fun a σ' => es[i]? = some a ∧ σ' = (D, .list acc) :: σ₂) : EltOk X scope [(y, c)] 1 elt σ₂ N vals es :=
  fun C D acc i hi => h (X.comp scope [(y, c)] C) rfl ((S.ok K).lc C) (S.ck K hk) D acc i hi
/-- for x in range(n), n a natural number -/
theorem Xs.forN {X : Fx} {m : Loc} {σ : Hp} {EQ : EPost} {QS : AF → Loc → Hp → Prop} {x : Str} {j : Nat} {px pos : Pos} {iter : Expr} {body : List Stmt} (lc : Lc X.fd x j) (hs : ∀ x, foldedSetIterable iter X.env x = pure x)
    (h : Ev X (eval iter X.env) m σ EQ fun r σ₁ => ∃ (y : Addr) (σ₂ : Hp) (n : Nat) (I : Nat → Loc → Hp → Prop), r = .ref y ∧ σ₁ = (y, .rng 0 (n : Int)) :: σ₂ ∧ n ≤ 100000 ∧ I 0 m σ₂ ∧ (∀ i m σ, i < n → I i m σ → ∃ m₁, SetAt m j (.int (i : Int)) m₁ ∧ Xs X (execs body X.env) m₁ σ NoE (turnX I i QS)) ∧ (∀ m σ, I n m σ → QS .next m σ)) (hX : X.n ≠ 0 := by omega) :
    Xs X (exec (.For (.Name x px) iter body [] pos) X.env) m σ EQ QS :=
  Xs.forRange lc hs (Ev.mono h fun r σ₁ ⟨y, σ₂, n, I, e1, e2, hn, h0, ht, he⟩ => ⟨y, 0, n, σ₂, e1, e2, by omega, by omega, by omega, by omega, I, h0, fun i m σ hi hI => by
    obtain ⟨m₁, sa, hx⟩ := ht i m σ (by omega) hI
    exact ⟨m₁, by rw [Int.zero_add]; exact sa, hx⟩, fun m σ hI => he m σ (by rw [show ((n : Int) - 0).toNat = n by omega] at hI; exact hI)⟩)
open PySem
/-! law 2: prefix and postfix operators around a number. P: the prefix operators from the number outwards, B: the postfix operators in their order. -/
inductive Bt (O : OpE) (P B : List Nat) : Nat → Nat → Tr → Int → Prop
  | num : Bt O P B 0 0 (.num 5) 0
  | pre {i o j : Nat} {t : Tr} {p : Int} : Bt O P B i o t p → P[i]? = some j → p ≤ O.rgt j → Bt O P B (i + 1) o (.un (O.fn j) t) (O.lev j)
  | post {i o j : Nat} {t : Tr} {p : Int} : Bt O P B i o t p → B[o]? = some j → p ≤ O.lft j → Bt O P B i (o + 1) (.un (O.fn j) t) (O.lev j)
noncomputable def V (O : OpE) (P B : List Nat) (i o : Nat) (p : Int) : Prop := ∃ t, Bt O P B i o t p
noncomputable def lim2 (O : OpE) (P : List Nat) (most : Int) (i : Nat) : Int := match P[i]? with
  | some j => O.rgt j
  | none => most
/-- what may still come -/
inductive Cm (O : OpE) (P B : List Nat) (most : Int) : Nat → Nat → Int → Nat → Prop
  | done {o : Nat} {p : Int} : p ≤ most → Cm O P B most P.length o p o
  | pre {i o j t : Nat} {p : Int} : P[i]? = some j → p ≤ O.rgt j → Cm O P B most (i + 1) o (O.lev j) t → Cm O P B most i o p t
  | post {i o j t : Nat} {p : Int} : B[o]? = some j → p ≤ O.lft j → Cm O P B most i (o + 1) (O.lev j) t → Cm O P B most i o p t
noncomputable def bk (O : OpE) (P B : List Nat) (most : Int) (i q : Nat) (pr : Int) : Prop := ∀ j, B[q]? = some j → ¬ (O.lev j ≤ lim2 O P most i ∧ pr ≤ O.lft j)
/-- the greedy way -/
inductive Gr (O : OpE) (P B : List Nat) (most : Int) : Nat → Nat → Int → Nat → Prop
  | stop {q : Nat} {pr : Int} : bk O P B most P.length q pr → Gr O P B most P.length q pr q
  | post {i q j q' : Nat} {pr : Int} : B[q]? = some j → O.lev j ≤ lim2 O P most i → pr ≤ O.lft j → Gr O P B most i (q + 1) (O.lev j) q' → Gr O P B most i q pr q'
  | red {i q j q' : Nat} {pr : Int} : bk O P B most i q pr → P[i]? = some j → Gr O P B most (i + 1) q (O.lev j) q' → Gr O P B most i q pr q'
section
variable {O : OpE} {P B : List Nat} {most : Int}
theorem Gr.le {i q q' : Nat} {pr : Int} (h : Gr O P B most i q pr q') : q ≤ q' := by
  induction h with
  | stop => exact Nat.le_refl _
  | post _ _ _ _ ih => omega
  | red _ _ _ ih => exact ih
theorem Cm.lim (hL : ∀ j ∈ B, O.lft j ≤ O.lev j) {i o t : Nat} {p : Int} (h : Cm O P B most i o p t) : p ≤ lim2 O P most i := by
  induction h with
  | done h => unfold lim2; rw [List.getElem?_eq_none (Nat.le_refl _)]; exact h
  | pre h1 h2 _ _ => unfold lim2; rw [h1]; exact h2
  | post h1 h2 _ ih => exact Int.le_trans h2 (Int.le_trans (hL _ (List.mem_of_getElem? h1)) ih)
theorem Cm.of_V {i o t : Nat} {p : Int} {x : Tr} (h : Bt O P B i o x p) (c : Cm O P B most i o p t) : Cm O P B most 0 0 0 t := by
  induction h with
  | num => exact c
  | pre _ h1 h2 ih => exact ih (.pre h1 h2 c)
  | post _ h1 h2 ih => exact ih (.post h1 h2 c)
noncomputable def base2 (O : OpE) (P : List Nat) : Nat → Int
  | 0 => 0
  | i + 1 => match P[i]? with
    | some j => O.lev j
    | none => 0
noncomputable def lastB (O : OpE) (B : List Nat) (q : Nat) (pr : Int) : Prop := ∃ k j, q = k + 1 ∧ B[k]? = some j ∧ pr = O.lev j
/-- greedy has at least as much -/
theorem Gr.dom (hL : ∀ j ∈ B, O.lft j ≤ O.lev j) {i q q' : Nat} {pr : Int} (h : Gr O P B most i q pr q') :
    ∀ {o t : Nat} {p : Int}, Cm O P B most i o p t → o ≤ q → (o = q → pr ≤ p) → base2 O P i ≤ p → (pr = base2 O P i ∨ lastB O B q pr) → t ≤ q' := by
  induction h with
  | @stop q pr hb =>
    intro o t p c
    generalize hi : P.length = i at c
    induction c with
    | done => intro h _ _ _; exact h
    | pre h1 => subst hi; rw [List.getElem?_eq_none (Nat.le_refl _)] at h1; cases h1
    | @post i o j t p h1 h2 c ih =>
      subst hi
      intro h1' h2' h3' h4'
      have hll := hL _ (List.mem_of_getElem? h1)
      by_cases hq : o = q
      · subst hq
        exact absurd ⟨c.lim hL, Int.le_trans (h2' rfl) h2⟩ (hb j h1)
      · refine ih rfl (by omega) (fun e => ?_) (by omega) h4'
        rcases h4' with h | ⟨k, j', e1, e2, e3⟩
        · omega
        · obtain rfl : k = o := by omega
          rw [h1] at e2; cases e2; omega
  | @post i q j q' pr g1 g2 g3 g ih0 =>
    intro o t p c
    induction c with
    | done h => intro h1 _ _ _; have := g.le; omega
    | pre h1 h2 c ih =>
      intro a1 a2 a3 a4
      exact ih0 (.pre h1 h2 c) (by omega) (fun e => by omega) a3 (.inr ⟨q, j, rfl, g1, rfl⟩)
    | @post i o j' t p h1 h2 c ih =>
      intro a1 a2 a3 a4
      have hll := hL _ (List.mem_of_getElem? h1)
      by_cases hq : o = q
      · subst hq
        rw [g1] at h1; cases h1
        exact ih0 c (Nat.le_refl _) (fun _ => Int.le_refl _) (by omega) (.inr ⟨o, j, rfl, g1, rfl⟩)
      · refine ih g2 g ih0 (by omega) (fun e => ?_) (by omega) a4
        rcases a4 with h | ⟨k, j'', e1, e2, e3⟩
        · omega
        · obtain rfl : k = o := by omega
          rw [h1] at e2; cases e2; omega
  | @red i q j q' pr hb gj g ih0 =>
    intro o t p c
    induction c with
    | done h => rw [List.getElem?_eq_none (Nat.le_refl _)] at gj; cases gj
    | @pre i o j' t p h1 h2 c ih =>
      intro a1 a2 a3 a4
      rw [gj] at h1; cases h1
      have hbase : base2 O P (i + 1) = O.lev j := by show (match P[i]? with | some j => O.lev j | none => 0) = _; rw [gj]
      exact ih0 c a1 (fun _ => Int.le_refl _) (by rw [hbase]; exact Int.le_refl _) (.inl hbase.symm)
    | @post i o j' t p h1 h2 c ih =>
      intro a1 a2 a3 a4
      have hll := hL _ (List.mem_of_getElem? h1)
      by_cases hq : o = q
      · subst hq
        exact absurd ⟨c.lim hL, Int.le_trans (a2 rfl) h2⟩ (hb _ h1)
      · refine ih hb gj g ih0 (by omega) (fun e => ?_) (by omega) a4
        rcases a4 with h | ⟨k, j'', e1, e2, e3⟩
        · omega
        · obtain rfl : k = o := by omega
          rw [h1] at e2; cases e2; omega
theorem Gr.most_ (hL : ∀ j ∈ B, O.lft j ≤ O.lev j) {q' o : Nat} {p : Int} (h : Gr O P B most 0 0 0 q') (v : V O P B P.length o p) (hp : p ≤ most) : o ≤ q' := by
  obtain ⟨t, bt⟩ := v
  exact h.dom hL (Cm.of_V bt (.done hp)) (Nat.le_refl _) (fun _ => Int.le_refl _) (Int.le_refl _) (.inl rfl)
/-- the frames of the prefix operators still open -/
noncomputable def frm2 (O : OpE) (P : List Nat) (most : Int) (i : Nat) : List Fm := match h : P.drop i with
  | [] => []
  | j :: r => ⟨O.fn j, O.lev j, lim2 O P most (i + 1), none⟩ :: frm2 O P most (i + 1)
termination_by P.length - i
decreasing_by
  have : (P.drop i).length = P.length - i := List.length_drop
  rw [h] at this; simp at this; omega
theorem frm2_end {i : Nat} (h : P.length ≤ i) : frm2 O P most i = [] := by
  unfold frm2
  split
  · rfl
  · rename_i j r e
    rw [List.drop_of_length_le h] at e; cases e
theorem frm2_at {i j : Nat} (h : P[i]? = some j) : frm2 O P most i = ⟨O.fn j, O.lev j, lim2 O P most (i + 1), none⟩ :: frm2 O P most (i + 1) := by
  obtain ⟨hlt, e⟩ := List.getElem?_eq_some_iff.mp h
  have hd : P.drop i = j :: P.drop (i + 1) := by rw [List.drop_eq_getElem_cons hlt, e]
  conv => lhs; unfold frm2
  split
  · rename_i e'; rw [hd] at e'; cases e'
  · rename_i j' r e'; rw [hd] at e'; cases e'; rfl
theorem run2 {tok : Nat → Option Tk} {np : Nat} (hB : ∀ q j, B[q]? = some j → tok (np + 1 + q) = some (.op j)) (hF : tok (np + 1 + B.length) = some .fin) (hinf : ∀ j ∈ B, O.inf j = false)
    (hch : ∀ i j, P[i]? = some j → O.lev j ≤ lim2 O P most (i + 1)) :
    ∀ (k i q : Nat) (t : Tr) (pr : Int), (B.length - q) + (P.length - i) = k → i ≤ P.length → q ≤ B.length → Bt O P B i q t pr → pr ≤ lim2 O P most i →
      ∃ (q' n : Nat) (r : PSt), Gr O P B most i q pr q' ∧ n ≤ k + 1 ∧ Run tok O n ⟨np + 1 + q, lim2 O P most i, t, pr, frm2 O P most i⟩ r ∧ r.pl = np + 1 + q' ∧ r.fs = [] ∧ q' ≤ B.length ∧ Bt O P B P.length q' r.term r.pr ∧ r.pr ≤ most := by
  intro k
  induction k with
  | zero =>
    intro i q t pr hk hi hq bt hl
    obtain rfl : i = P.length := by omega
    obtain rfl : q = B.length := by omega
    have hlm : lim2 O P most P.length = most := by unfold lim2; rw [List.getElem?_eq_none (Nat.le_refl _)]
    refine ⟨B.length, 1, _, .stop (fun j hj => by rw [List.getElem?_eq_none (Nat.le_refl _)] at hj; cases hj), Nat.le_refl _, .fin (.inl hF) (frm2_end (Nat.le_refl _)), rfl, frm2_end (Nat.le_refl _), Nat.le_refl _, bt, by rw [hlm] at hl; exact hl⟩
  | succ k ih =>
    intro i q t pr hk hi hq bt hl
    by_cases hgo : ∃ j, B[q]? = some j ∧ O.lev j ≤ lim2 O P most i ∧ pr ≤ O.lft j
    · obtain ⟨j, h1, h2, h3⟩ := hgo
      have hlt := (List.getElem?_eq_some_iff.mp h1).1
      obtain ⟨q', n, r, g, hn, hr, e1, e2, e3, e4, e5⟩ := ih i (q + 1) (.un (O.fn j) t) (O.lev j) (by omega) hi hlt (.post bt h1 h3) h2
      exact ⟨q', n + 1, r, .post h1 h2 h3 g, by omega, .post (hB _ _ h1) (hinf _ (List.mem_of_getElem? h1)) h2 h3 hr, e1, e2, e3, e4, e5⟩
    · have hb : bk O P B most i q pr := fun j hj hc => hgo ⟨j, hj, hc⟩
      have hbl : ∀ fs, blocked tok O ⟨np + 1 + q, lim2 O P most i, t, pr, fs⟩ := fun fs => by
        by_cases hlt : q < B.length
        · exact .inr ⟨B[q], hB _ _ (List.getElem?_eq_getElem hlt), hb _ (List.getElem?_eq_getElem hlt)⟩
        · obtain rfl : q = B.length := by omega
          exact .inl hF
      by_cases hlt : i < P.length
      · have hj : P[i]? = some P[i] := List.getElem?_eq_getElem hlt
        obtain ⟨q', n, r, g, hn, hr, e1, e2, e3, e4, e5⟩ := ih (i + 1) q (.un (O.fn P[i]) t) (O.lev P[i]) (by omega) hlt hq (.pre bt hj (by unfold lim2 at hl; rw [hj] at hl; exact hl)) (hch _ _ hj)
        refine ⟨q', n + 1, r, .red hb hj g, by omega, ?_, e1, e2, e3, e4, e5⟩
        rw [frm2_at hj]
        exact .red (hbl _) hr
      · obtain rfl : i = P.length := by omega
        have hlm : lim2 O P most P.length = most := by unfold lim2; rw [List.getElem?_eq_none (Nat.le_refl _)]
        exact ⟨q, 1, _, .stop hb, by omega, .fin (hbl _) (frm2_end (Nat.le_refl _)), rfl, frm2_end (Nat.le_refl _), hq, bt, by rw [hlm] at hl; exact hl⟩
end
open PySem PySem.W PySem.Calls PyProof.Rows PySem.SeqAt
noncomputable abbrev nmSy : List Str := ["texts", "atom_numbers", "functors", "functor_numbers"]
structure SyF (K : Frag) : Prop where
  a_texts : AtN K 154 nmSy "texts" 0
  a_atom_numbers : AtN K 154 nmSy "atom_numbers" 1
  a_functors : AtN K 154 nmSy "functors" 2
  a_functor_numbers : AtN K 154 nmSy "functor_numbers" 3
  m_atom : MtN K 154 nmSy "atom" 88
  m_functor : MtN K 154 nmSy "functor" 102
  m_func : MtN K 154 nmSy "func" 109
  st : StC K 154
theorem SyF.of (p : Params) : SyF (KK p) where
  a_texts := ⟨⟨by kernel_rfl, by kernel_rfl, by kernel_rfl⟩, by unfold NIx; kernel_rfl⟩
  a_atom_numbers := ⟨⟨by kernel_rfl, by kernel_rfl, by kernel_rfl⟩, by unfold NIx; kernel_rfl⟩
  a_functors := ⟨⟨by kernel_rfl, by kernel_rfl, by kernel_rfl⟩, by unfold NIx; kernel_rfl⟩
  a_functor_numbers := ⟨⟨by kernel_rfl, by kernel_rfl, by kernel_rfl⟩, by unfold NIx; kernel_rfl⟩
  m_atom := ⟨⟨by kernel_rfl, by kernel_rfl, by kernel_rfl⟩, by kernel_rfl, by kernel_rfl⟩
  m_functor := ⟨⟨by kernel_rfl, by kernel_rfl, by kernel_rfl⟩, by kernel_rfl, by kernel_rfl⟩
  m_func := ⟨⟨by kernel_rfl, by kernel_rfl, by kernel_rfl⟩, by kernel_rfl, by kernel_rfl⟩
  st := ⟨by kernel_rfl, by kernel_rfl⟩
noncomputable abbrev nmOp : List Str := ["symbols", "prefixes", "infixes", "postfixes"]
structure OpF (K : Frag) : Prop where
  a_symbols : AtN K 286 nmOp "symbols" 0
  a_prefixes : AtN K 286 nmOp "prefixes" 1
  a_infixes : AtN K 286 nmOp "infixes" 2
  a_postfixes : AtN K 286 nmOp "postfixes" 3
  m_prefix : MtN K 286 nmOp "prefix" 241
  m_infix : MtN K 286 nmOp "infix" 248
  m_postfix : MtN K 286 nmOp "postfix" 255
  m_is_operator : MtN K 286 nmOp "is_operator" 262
  m_table_of : MtN K 286 nmOp "table_of" 269
  m_add : MtN K 286 nmOp "add" 276
  st : StC K 286
theorem OpF.of (p : Params) : OpF (KK p) where
  a_symbols := ⟨⟨by kernel_rfl, by kernel_rfl, by kernel_rfl⟩, by unfold NIx; kernel_rfl⟩
  a_prefixes := ⟨⟨by kernel_rfl, by kernel_rfl, by kernel_rfl⟩, by unfold NIx; kernel_rfl⟩
  a_infixes := ⟨⟨by kernel_rfl, by kernel_rfl, by kernel_rfl⟩, by unfold NIx; kernel_rfl⟩
  a_postfixes := ⟨⟨by kernel_rfl, by kernel_rfl, by kernel_rfl⟩, by unfold NIx; kernel_rfl⟩
  m_prefix := ⟨⟨by kernel_rfl, by kernel_rfl, by kernel_rfl⟩, by kernel_rfl, by kernel_rfl⟩
  m_infix := ⟨⟨by kernel_rfl, by kernel_rfl, by kernel_rfl⟩, by kernel_rfl, by kernel_rfl⟩
  m_postfix := ⟨⟨by kernel_rfl, by kernel_rfl, by kernel_rfl⟩, by kernel_rfl, by kernel_rfl⟩
  m_is_operator := ⟨⟨by kernel_rfl, by kernel_rfl, by kernel_rfl⟩, by kernel_rfl, by kernel_rfl⟩
  m_table_of := ⟨⟨by kernel_rfl, by kernel_rfl, by kernel_rfl⟩, by kernel_rfl, by kernel_rfl⟩
  m_add := ⟨⟨by kernel_rfl, by kernel_rfl, by kernel_rfl⟩, by kernel_rfl, by kernel_rfl⟩
  st := ⟨by kernel_rfl, by kernel_rfl⟩
noncomputable abbrev nmFr : List Str := ["kind", "limit", "functor", "name", "priority", "left", "items"]
structure FrF (K : Frag) : Prop where
  a_kind : AtN K 309 nmFr "kind" 0
  a_limit : AtN K 309 nmFr "limit" 1
  a_functor : AtN K 309 nmFr "functor" 2
  a_name : AtN K 309 nmFr "name" 3
  a_priority : AtN K 309 nmFr "priority" 4
  a_left : AtN K 309 nmFr "left" 5
  a_items : AtN K 309 nmFr "items" 6
  st : StC K 309
theorem FrF.of (p : Params) : FrF (KK p) where
  a_kind := ⟨⟨by kernel_rfl, by kernel_rfl, by kernel_rfl⟩, by unfold NIx; kernel_rfl⟩
  a_limit := ⟨⟨by kernel_rfl, by kernel_rfl, by kernel_rfl⟩, by unfold NIx; kernel_rfl⟩
  a_functor := ⟨⟨by kernel_rfl, by kernel_rfl, by kernel_rfl⟩, by unfold NIx; kernel_rfl⟩
  a_name := ⟨⟨by kernel_rfl, by kernel_rfl, by kernel_rfl⟩, by unfold NIx; kernel_rfl⟩
  a_priority := ⟨⟨by kernel_rfl, by kernel_rfl, by kernel_rfl⟩, by unfold NIx; kernel_rfl⟩
  a_left := ⟨⟨by kernel_rfl, by kernel_rfl, by kernel_rfl⟩, by unfold NIx; kernel_rfl⟩
  a_items := ⟨⟨by kernel_rfl, by kernel_rfl, by kernel_rfl⟩, by unfold NIx; kernel_rfl⟩
  st := ⟨by kernel_rfl, by kernel_rfl⟩
noncomputable abbrev nmPa : List Str := ["symbols", "operators", "mode", "tokens", "place", "frames", "limit", "term", "priority", "numbers", "names", "counts", "next_number"]
structure PaF (K : Frag) : Prop where
  a_symbols : AtN K 517 nmPa "symbols" 0
  a_operators : AtN K 517 nmPa "operators" 1
  a_mode : AtN K 517 nmPa "mode" 2
  a_tokens : AtN K 517 nmPa "tokens" 3
  a_place : AtN K 517 nmPa "place" 4
  a_frames : AtN K 517 nmPa "frames" 5
  a_limit : AtN K 517 nmPa "limit" 6
  a_term : AtN K 517 nmPa "term" 7
  a_priority : AtN K 517 nmPa "priority" 8
  a_numbers : AtN K 517 nmPa "numbers" 9
  a_names : AtN K 517 nmPa "names" 10
  a_counts : AtN K 517 nmPa "counts" 11
  a_next_number : AtN K 517 nmPa "next_number" 12
  m_peek : MtN K 517 nmPa "peek" 369
  m_take : MtN K 517 nmPa "take" 376
  m_fault : MtN K 517 nmPa "fault" 383
  m_parse : MtN K 517 nmPa "parse" 397
  m_settle : MtN K 517 nmPa "settle" 404
  m_operand : MtN K 517 nmPa "operand" 418
  m_named : MtN K 517 nmPa "named" 425
  m_operator_operand : MtN K 517 nmPa "operator_operand" 432
  m_stands_alone : MtN K 517 nmPa "stands_alone" 439
  m_operator_name : MtN K 517 nmPa "operator_name" 458
  m_operator : MtN K 517 nmPa "operator" 465
  m_admits : MtN K 517 nmPa "admits" 472
  m_shift_infix : MtN K 517 nmPa "shift_infix" 479
  m_apply_postfix : MtN K 517 nmPa "apply_postfix" 486
  m_reduce : MtN K 517 nmPa "reduce" 493
  st : StC K 517
theorem PaF.of (p : Params) : PaF (KK p) where
  a_symbols := ⟨⟨by kernel_rfl, by kernel_rfl, by kernel_rfl⟩, by unfold NIx; kernel_rfl⟩
  a_operators := ⟨⟨by kernel_rfl, by kernel_rfl, by kernel_rfl⟩, by unfold NIx; kernel_rfl⟩
  a_mode := ⟨⟨by kernel_rfl, by kernel_rfl, by kernel_rfl⟩, by unfold NIx; kernel_rfl⟩
  a_tokens := ⟨⟨by kernel_rfl, by kernel_rfl, by kernel_rfl⟩, by unfold NIx; kernel_rfl⟩
  a_place := ⟨⟨by kernel_rfl, by kernel_rfl, by kernel_rfl⟩, by unfold NIx; kernel_rfl⟩
  a_frames := ⟨⟨by kernel_rfl, by kernel_rfl, by kernel_rfl⟩, by unfold NIx; kernel_rfl⟩
  a_limit := ⟨⟨by kernel_rfl, by kernel_rfl, by kernel_rfl⟩, by unfold NIx; kernel_rfl⟩
  a_term := ⟨⟨by kernel_rfl, by kernel_rfl, by kernel_rfl⟩, by unfold NIx; kernel_rfl⟩
  a_priority := ⟨⟨by kernel_rfl, by kernel_rfl, by kernel_rfl⟩, by unfold NIx; kernel_rfl⟩
  a_numbers := ⟨⟨by kernel_rfl, by kernel_rfl, by kernel_rfl⟩, by unfold NIx; kernel_rfl⟩
  a_names := ⟨⟨by kernel_rfl, by kernel_rfl, by kernel_rfl⟩, by unfold NIx; kernel_rfl⟩
  a_counts := ⟨⟨by kernel_rfl, by kernel_rfl, by kernel_rfl⟩, by unfold NIx; kernel_rfl⟩
  a_next_number := ⟨⟨by kernel_rfl, by kernel_rfl, by kernel_rfl⟩, by unfold NIx; kernel_rfl⟩
  m_peek := ⟨⟨by kernel_rfl, by kernel_rfl, by kernel_rfl⟩, by kernel_rfl, by kernel_rfl⟩
  m_take := ⟨⟨by kernel_rfl, by kernel_rfl, by kernel_rfl⟩, by kernel_rfl, by kernel_rfl⟩
  m_fault := ⟨⟨by kernel_rfl, by kernel_rfl, by kernel_rfl⟩, by kernel_rfl, by kernel_rfl⟩
  m_parse := ⟨⟨by kernel_rfl, by kernel_rfl, by kernel_rfl⟩, by kernel_rfl, by kernel_rfl⟩
  m_settle := ⟨⟨by kernel_rfl, by kernel_rfl, by kernel_rfl⟩, by kernel_rfl, by kernel_rfl⟩
  m_operand := ⟨⟨by kernel_rfl, by kernel_rfl, by kernel_rfl⟩, by kernel_rfl, by kernel_rfl⟩
  m_named := ⟨⟨by kernel_rfl, by kernel_rfl, by kernel_rfl⟩, by kernel_rfl, by kernel_rfl⟩
  m_operator_operand := ⟨⟨by kernel_rfl, by kernel_rfl, by kernel_rfl⟩, by kernel_rfl, by kernel_rfl⟩
  m_stands_alone := ⟨⟨by kernel_rfl, by kernel_rfl, by kernel_rfl⟩, by kernel_rfl, by kernel_rfl⟩
  m_operator_name := ⟨⟨by kernel_rfl, by kernel_rfl, by kernel_rfl⟩, by kernel_rfl, by kernel_rfl⟩
  m_operator := ⟨⟨by kernel_rfl, by kernel_rfl, by kernel_rfl⟩, by kernel_rfl, by kernel_rfl⟩
  m_admits := ⟨⟨by kernel_rfl, by kernel_rfl, by kernel_rfl⟩, by kernel_rfl, by kernel_rfl⟩
  m_shift_infix := ⟨⟨by kernel_rfl, by kernel_rfl, by kernel_rfl⟩, by kernel_rfl, by kernel_rfl⟩
  m_apply_postfix := ⟨⟨by kernel_rfl, by kernel_rfl, by kernel_rfl⟩, by kernel_rfl, by kernel_rfl⟩
  m_reduce := ⟨⟨by kernel_rfl, by kernel_rfl, by kernel_rfl⟩, by kernel_rfl, by kernel_rfl⟩
  st := ⟨by kernel_rfl, by kernel_rfl⟩
structure GlbF (K : Frag) : Prop where
  f_fixed_atoms : GlF K "fixed_atoms" 60
  f_fixed_functors : GlF K "fixed_functors" 67
  f_atom : GlF K "atom" 173
  f_integer : GlF K "integer" 180
  f_struct : GlF K "struct" 187
  f_fixity : GlF K "fixity" 212
  f_bounds : GlF K "bounds" 219
  f_ends_operand : GlF K "ends_operand" 320
  f_closes : GlF K "closes" 327
  f_is_punct : GlF K "is_punct" 334
  f_Symbols : GlF K "Symbols" 154
  f_OperatorTable : GlF K "OperatorTable" 286
  f_Frame : GlF K "Frame" 309
  f_Parser : GlF K "Parser" 517
  f_SyntaxFault : GlF K "SyntaxFault" 51
  f_standard_rows : GlF K "standard_rows" 205
  f_law_figures : GlF K "_law_figures" 528
  f_law_bound : GlF K "_law_bound" 535
  f_law_grid : GlF K "_law_grid" 542
  f_law_peeled : GlF K "_law_peeled" 549
  i_COMMA_PRIORITY : GlI K "COMMA_PRIORITY" 1000
  i_A_COMMA : GlI K "A_COMMA" 7
  i_A_BAR : GlI K "A_BAR" 8
  i_CLAUSE_PRIORITY : GlI K "CLAUSE_PRIORITY" 1200
  i_ARGUMENT_PRIORITY : GlI K "ARGUMENT_PRIORITY" 999
  i_WANT_OPERAND : GlI K "WANT_OPERAND" 0
  i_WANT_OPERATOR : GlI K "WANT_OPERATOR" 1
  i_DONE : GlI K "DONE" 2
  i_A_NIL : GlI K "A_NIL" 0
  i_A_CURLY : GlI K "A_CURLY" 2
  b_len : GlB K "len" (.builtin "len")
  b_range : GlB K "range" (.type "range")
  b_min : GlB K "min" (.builtin "min")
  b_int : GlB K "int" (.type "int")
  b_tuple : GlB K "tuple" (.type "tuple")
  t_PREFIX_TYPES : GlT K "PREFIX_TYPES" [.str "fx", .str "fy"]
  t_INFIX_TYPES : GlT K "INFIX_TYPES" [.str "xfx", .str "xfy", .str "yfx"]
  t_POSTFIX_TYPES : GlT K "POSTFIX_TYPES" [.str "xf", .str "yf"]
  t_CLOSERS : GlT K "CLOSERS" [.str ")", .str "]", .str "}"]
  t_SEPARATORS : GlT K "SEPARATORS" [.str ",", .str "|"]
theorem GlbF.of (p : Params) : GlbF (KK p) where
  f_fixed_atoms := ⟨by kernel_rfl, by kernel_rfl⟩
  f_fixed_functors := ⟨by kernel_rfl, by kernel_rfl⟩
  f_atom := ⟨by kernel_rfl, by kernel_rfl⟩
  f_integer := ⟨by kernel_rfl, by kernel_rfl⟩
  f_struct := ⟨by kernel_rfl, by kernel_rfl⟩
  f_fixity := ⟨by kernel_rfl, by kernel_rfl⟩
  f_bounds := ⟨by kernel_rfl, by kernel_rfl⟩
  f_ends_operand := ⟨by kernel_rfl, by kernel_rfl⟩
  f_closes := ⟨by kernel_rfl, by kernel_rfl⟩
  f_is_punct := ⟨by kernel_rfl, by kernel_rfl⟩
  f_Symbols := ⟨by kernel_rfl, by kernel_rfl⟩
  f_OperatorTable := ⟨by kernel_rfl, by kernel_rfl⟩
  f_Frame := ⟨by kernel_rfl, by kernel_rfl⟩
  f_Parser := ⟨by kernel_rfl, by kernel_rfl⟩
  f_SyntaxFault := ⟨by kernel_rfl, by kernel_rfl⟩
  f_standard_rows := ⟨by kernel_rfl, by kernel_rfl⟩
  f_law_figures := ⟨by kernel_rfl, by kernel_rfl⟩
  f_law_bound := ⟨by kernel_rfl, by kernel_rfl⟩
  f_law_grid := ⟨by kernel_rfl, by kernel_rfl⟩
  f_law_peeled := ⟨by kernel_rfl, by kernel_rfl⟩
  i_COMMA_PRIORITY := ⟨_, by rfl⟩
  i_A_COMMA := ⟨_, by rfl⟩
  i_A_BAR := ⟨_, by rfl⟩
  i_CLAUSE_PRIORITY := ⟨_, by rfl⟩
  i_ARGUMENT_PRIORITY := ⟨_, by rfl⟩
  i_WANT_OPERAND := ⟨_, by rfl⟩
  i_WANT_OPERATOR := ⟨_, by rfl⟩
  i_DONE := ⟨_, by rfl⟩
  i_A_NIL := ⟨_, by rfl⟩
  i_A_CURLY := ⟨_, by rfl⟩
  b_len := ⟨by kernel_rfl, by rfl, by decide, by rfl⟩
  b_range := ⟨by kernel_rfl, by rfl, by decide, by rfl⟩
  b_min := ⟨by kernel_rfl, by rfl, by decide, by rfl⟩
  b_int := ⟨by kernel_rfl, by rfl, by decide, by rfl⟩
  b_tuple := ⟨by kernel_rfl, by rfl, by decide, by rfl⟩
  t_PREFIX_TYPES := GlT.strs (by rfl) (by rfl) rfl rfl (fun h => .cons .strI (.cons .strI (.nil)))
  t_INFIX_TYPES := GlT.strs (by rfl) (by rfl) rfl rfl (fun h => .cons .strI (.cons .strI (.cons .strI (.nil))))
  t_POSTFIX_TYPES := GlT.strs (by rfl) (by rfl) rfl rfl (fun h => .cons .strI (.cons .strI (.nil)))
  t_CLOSERS := GlT.strs (by rfl) (by rfl) rfl rfl (fun h => .cons .strI (.cons .strI (.cons .strI (.nil))))
  t_SEPARATORS := GlT.strs (by rfl) (by rfl) rfl rfl (fun h => .cons .strI (.cons .strI (.nil)))
structure Fs (K : Frag) : Prop where
  sy : SyF K
  op : OpF K
  fr : FrF K
  pa : PaF K
  gl : GlbF K
theorem Fs.of (p : Params) : Fs (KK p) := ⟨.of p, .of p, .of p, .of p, .of p⟩
structure IsG (G : Gl) : Prop where
  k : G.K = KK G.w.params
  g : GOk G
theorem IsG.fs {G : Gl} (I : IsG G) : Fs G.K := by rw [I.k]; exact .of _
theorem FnIn.lit {K : Frag} {a : Addr} {fd : FuncData} {ps ls' gs : List Str} {b b' : List Stmt} (F : FnIn K a fd ps ls' gs b) (e : b = b') : FnIn K a fd ps ls' gs b' := e ▸ F
local macro_rules | `(tactic| walk_at "GA") => `(tactic| with_unfolding_all (first | exact GetAt.here | (apply GetAt.there; walk_at "GA")))
local macro_rules | `(tactic| walk_at "SA") => `(tactic| with_unfolding_all (first | exact SetAt.here | exact SetAt.nil0 | (apply SetAt.there; walk_at "SA") | (apply SetAt.nilS; walk_at "SA")))
local macro_rules | `(tactic| walk_at "M") => `(tactic| first | with_reducible assumption | with_reducible exact List.mem_cons_self | ((with_reducible refine' List.mem_cons_of_mem _ ?k1); (case k1 => walk_at "M")) | ((with_reducible refine' List.mem_append_right _ ?k1); (case k1 => walk_at "M")))
local macro_rules | `(tactic| walk_at "U") => `(tactic| first | with_reducible assumption | with_reducible exact UpdL.here | ((with_reducible refine' UpdL.there ?k1); (case k1 => walk_at "U")) | ((with_reducible refine' UpdL.app ?k1); (case k1 => walk_at "U")))
local macro_rules | `(tactic| walk_at "L") => `(tactic| with_reducible assumption)
local macro_rules | `(tactic| walk_at "FN") => `(tactic| exact ⟨⟨_, _, _, rfl⟩, rfl, rfl, rfl, rfl, rfl, rfl, by kernel_rfl, rfl, ⟨rfl, by decide +kernel⟩, by first | exact bindE (bind1 fun _ => rfl) | exact bindE (bind2 fun _ _ => rfl) | exact bindE (bind3 fun _ _ _ => rfl) | exact bindE (bind4 fun _ _ _ _ => rfl) | exact bindE (bind5 fun _ _ _ _ _ => rfl) | exact bindE (bind0 rfl) | exact bindD3 fun _ _ _ _ X => binds_K X rfl rfl rfl rfl rfl⟩)
local macro_rules | `(tactic| walk_at "S") => `(tactic| first
  | with_reducible first | refine' Xs.cons ?_ | refine' thenX_n ?_ | refine' thenX_r ?_ | refine' thenX_b ?_ | refine' retX_r ?_ | refine' retX_n ?_ | refine' Ev.int ?_ | refine' Ev.str ?_ | refine' Ev.boolc ?_ | refine' Ev.nonec ?_ | refine' Xs.ret ?_ | refine' Xs.ite ?_ | refine' Xs.nil ?_ | refine' Xs.brk ?_ | refine' Ev.bin ?_ | refine' Ev.ite ?_ | refine' Ev.neg ?_ | refine' Tt.not ?_ | refine' Tt.and ?_ | refine' Tt.or ?_ | refine' Tt.andNil ?_ | refine' Tt.orNil ?_ | refine' TrAt.bool ?_ | refine' Ev.sliceTo ?_ | refine' Ev.sliceAll ?_ | refine' Ev.sub ?_ | refine' turnX_b ?_ | refine' Ev.and ?_ | refine' Ev.bone ?_ | refine' EvL.cons' ?_ | refine' EvL.nil' ?_ | refine' Op2.ge ?_ | refine' Op2.gt ?_ | refine' Op2.le ?_ | refine' Op2.lt ?_ | refine' Op2.add ?_ | refine' Op2.sub ?_ | refine' Op2.eqi ?_ | refine' Op2.nei ?_ | refine' Op2.eqs ?_ | refine' Cl.tuple ?_ | refine' Cl.int ?_
  | ((with_reducible refine' Ev.name ?k1 ?k2 ?_); (case k1 => walk_at "L"); (case k2 => walk_at "GA"))
  | ((with_reducible refine' Ev.globI ?k1 ?k2 ?_); (case k1 => walk_at "L"); (case k2 => walk_at "L"))
  | ((with_reducible refine' Ev.globF ?k1 ?k2 ?_); (case k1 => walk_at "L"); (case k2 => walk_at "L"))
  | ((with_reducible refine' Ev.globT ?k1 ?k2 ?_); (case k1 => walk_at "L"); (case k2 => walk_at "L"))
  | ((with_reducible refine' Xs.assign ?k1 ?k2 ?_); (case k1 => walk_at "L"); (case k2 => exact rfl))
  | ((with_reducible refine' setL ?k1 ?_); (case k1 => walk_at "SA"))
  | ((with_reducible refine' Xs.expr ?k1 ?_); (case k1 => exact rfl))
  | ((with_reducible refine' Ev.cmp ?k1 ?_); (case k1 => exact rfl))
  | ((with_reducible refine' Tt.cmp ?k1 ?_); (case k1 => exact rfl))
  | ((with_reducible refine' Tt.plain ?k1 ?_); (case k1 => exact rfl))
  | ((with_reducible refine' Ev.callF ?k1 ?k2 ?k3 ?_); (case k1 => walk_at "L"); (case k2 => walk_at "L"); (case k3 => exact rfl))
  | ((with_reducible refine' Ev.callB ?k1 ?k2 ?k3 ?_); (case k1 => walk_at "L"); (case k2 => walk_at "L"); (case k3 => exact rfl))
  | ((with_reducible refine' Ev.callM' ?k1 ?k2 ?_); (case k1 => exact rfl); (case k2 => exact rfl))
  | ((with_reducible refine' Ev.attr' ?k1 ?_); (case k1 => exact rfl))
  | ((with_reducible refine' Ev.tuple ?k1 ?k2 ?_); (case k1 => exact rfl); (case k2 => decide))
  | ((with_reducible refine' Ev.list ?k1 ?k2 ?_); (case k1 => exact rfl); (case k2 => decide))
  | ((with_reducible refine' Xs.unpack ?k1 ?k2 ?_); (case k1 => exact rfl); (case k2 => exact rfl))
  | ((with_reducible refine' unpL ?k1 ?k2 ?_); (case k1 => exact rfl); (case k2 => walk_at "UN"))
  | ((with_reducible refine' Op1.at ?k1 ?k2 ?k3 ?k4 ?k5 ?_); (case k1 => walk_at "M"); (case k2 => walk_at "M"); (case k3 => walk_at "L"); (case k4 => walk_at "GA"); (case k5 => first | exact rfl | with_reducible assumption))
  | ((with_reducible refine' mthO ?k1 ?k2 ?k3 ?_); (case k1 => walk_at "M"); (case k2 => walk_at "M"); (case k3 => walk_at "L"))
  | ((with_reducible refine' mthApp ?k1 ?_); (case k1 => walk_at "M"))
  | ((with_reducible refine' mthPop ?k1 ?_); (case k1 => walk_at "M"))
  | ((with_reducible refine' mthGetS ?k1 ?_); (case k1 => walk_at "M"))
  | ((with_reducible refine' mthGetI ?k1 ?_); (case k1 => walk_at "M"))
  | ((with_reducible refine' mthGetT ?k1 ?_); (case k1 => walk_at "M"))
  | ((with_reducible refine' Cl.getS ?k1 ?k2 ?_); (case k1 => first | exact le_n (by with_reducible assumption) (by decide) | omega); (case k2 => walk_at "M"))
  | ((with_reducible refine' Cl.getI ?k1 ?k2 ?_); (case k1 => first | exact le_n (by with_reducible assumption) (by decide) | omega); (case k2 => walk_at "M"))
  | ((with_reducible refine' Cl.getI1 ?k1 ?k2 ?_); (case k1 => first | exact le_n (by with_reducible assumption) (by decide) | omega); (case k2 => walk_at "M"))
  | ((with_reducible refine' Cl.getT2 ?k1 ?k2 ?_); (case k1 => first | exact le_n (by with_reducible assumption) (by decide) | omega); (case k2 => walk_at "M"))
  | ((with_reducible refine' Cl.append ?k1 ?k2 ?_); (case k1 => walk_at "U"); (case k2 => omega))
  | ((with_reducible refine' Cl.pop ?k1 ?k2 ?_); (case k1 => walk_at "U"); (case k2 => omega))
  | ((with_reducible refine' Cl.len ?k1 ?k2 ?_); (case k1 => walk_at "M"); (case k2 => omega))
  | ((with_reducible refine' Xs.setAttr ?k1 ?_); (case k1 => exact rfl))
  | ((with_reducible refine' setAttrX ?k1 ?k2 ?k3 ?k4 ?k5 ?k6 ?k7 ?k8 ?_); (case k1 => exact rfl); (case k2 => walk_at "M"); (case k3 => walk_at "U"); (case k4 => walk_at "L"); (case k5 => walk_at "L"); (case k6 => walk_at "SA"); (case k7 => simp); (case k8 => decide))
  | ((with_reducible refine' Op2.isNone ?k1 ?_); (case k1 => first | exact rfl | with_reducible assumption))
  | ((with_reducible refine' Op2.itT0 ?k1 ?_); (case k1 => exact rfl))
  | ((with_reducible refine' Op2.itT1 ?k1 ?_); (case k1 => exact rfl))
  | ((with_reducible refine' Op2.itT2 ?k1 ?_); (case k1 => exact rfl))
  | with_reducible refine ⟨_, rfl, ?_⟩)
local macro_rules | `(tactic| walk_at "W") => `(tactic| repeat walk_at "S")
local macro_rules | `(tactic| walk_at "E") => `(tactic| first | with_reducible exact Le.refl _ | ((with_reducible refine' Le.skip ?k1); (case k1 => walk_at "E")) | ((with_reducible refine' Le.cut ?k1); (case k1 => walk_at "E")) | ((with_reducible refine' Le.app ?k1); (case k1 => walk_at "E")))
local macro_rules | `(tactic| walk_at "UN") => `(tactic| first | exact UnpN.nil | ((with_reducible refine' UnpN.cons ?k1 ?k2 ?k3); (case k1 => walk_at "L"); (case k2 => walk_at "SA"); (case k3 => walk_at "UN")))
local macro_rules | `(tactic| walk_at "S") => `(tactic| first
  | ((with_reducible refine' Ev.cell ?k1 ?k2 ?_); (case k1 => walk_at "L"); (case k2 => walk_at "M"))
  | ((with_reducible refine' Xs.assignC ?k1 ?k2 ?_); (case k1 => walk_at "L"); (case k2 => exact rfl))
  | fail "no")
open PySem PySem.W PySem.Calls PyProof.Rows PySem.SeqAt
theorem c_integer {G : Gl} (I : IsG G) {k : Int} {σ : Hp} {Q : AV → Hp → Prop} (q : Q (.tup [.str "i", .int k]) σ) : CallOk G 1 (.ref 180) [.int k] σ Q := by
  refine CallOk.go'' (n := 0) (ps := ["whole"]) (ls' := []) (gs := []) (FnIn.lit (by rw [I.k]; walk_at "FN") (by conv => lhs; whnf)) I.g rfl ?_
  rintro X rfl hn ⟨l0, -⟩ -
  dsimp only [padL, List.map, List.cons_append, List.nil_append, List.length_cons, List.length_nil, List.replicate, Nat.zero_add]
  walk_at "W"
  exact q
theorem c_struct {G : Gl} (I : IsG G) {f : Int} {l : List AV} {σ : Hp} {Q : AV → Hp → Prop} (q : Q (.tup [.str "s", .int f, .tup l]) σ) : CallOk G 1 (.ref 187) [.int f, .tup l] σ Q := by
  refine CallOk.go'' (n := 0) (ps := ["functor", "args"]) (ls' := []) (gs := ["tuple"]) (FnIn.lit (by rw [I.k]; walk_at "FN") (by conv => lhs; whnf)) I.g rfl ?_
  rintro X rfl hn ⟨l0, l1, -⟩ ⟨g0, -⟩
  have q_tuple := I.fs.gl.b_tuple
  dsimp only [padL, List.map, List.cons_append, List.nil_append, List.length_cons, List.length_nil, List.replicate, Nat.zero_add]
  walk_at "W"
  exact q
open PySem PySem.W PySem.Calls PyProof.Rows PySem.SeqAt
noncomputable def pfx (t : Str) : Bool := [AV.str "fx", .str "fy"].any fun y => y.eqv (.str t)
noncomputable def ifx (t : Str) : Bool := [AV.str "xfx", .str "xfy", .str "yfx"].any fun y => y.eqv (.str t)
noncomputable def sfx (t : Str) : Bool := [AV.str "xf", .str "yf"].any fun y => y.eqv (.str t)
noncomputable def fixK (t : Str) : AV := if pfx t then .str "prefix" else if ifx t then .str "infix" else if sfx t then .str "postfix" else .none
noncomputable def bnd (p : Int) (t : Str) : Int × Int := if t == "fx" then (0, p - 1) else if t == "fy" then (0, p) else if t == "xf" then (p - 1, 0) else if t == "yf" then (p, 0) else if t == "xfy" then (p - 1, p) else if t == "yfx" then (p, p - 1) else (p - 1, p - 1)
theorem c_fixity {G : Gl} (I : IsG G) {t : Str} {σ : Hp} {Q : AV → Hp → Prop} (q : Q (fixK t) σ) : CallOk G 3 (.ref 212) [.str t] σ Q := by
  refine CallOk.go'' (n := 2) (ps := ["type_text"]) (ls' := []) (gs := ["PREFIX_TYPES", "INFIX_TYPES", "POSTFIX_TYPES"]) (FnIn.lit (by rw [I.k]; walk_at "FN") (by conv => lhs; whnf)) I.g rfl ?_
  rintro X rfl hn ⟨l0, -⟩ ⟨g0, g1, g2, -⟩
  have q_PREFIX_TYPES := I.fs.gl.t_PREFIX_TYPES
  have q_INFIX_TYPES := I.fs.gl.t_INFIX_TYPES
  have q_POSTFIX_TYPES := I.fs.gl.t_POSTFIX_TYPES
  dsimp only [padL, List.map, List.cons_append, List.nil_append, List.length_cons, List.length_nil, List.replicate, Nat.zero_add]
  unfold fixK at q
  walk_at "W"
  refine Op2.inT (n := 1) (n' := 0) rfl rfl (by omega) rfl ?_
  walk_at "W"
  refine ifX_c (fun h => ?_) (fun h => ?_)
  · rw [show pfx t = true from h] at q
    walk_at "W"
    exact q
  rw [show pfx t = false from h] at q
  walk_at "W"
  refine Op2.inT (n := 1) (n' := 0) rfl rfl (by omega) rfl ?_
  walk_at "W"
  refine ifX_c (fun h => ?_) (fun h => ?_)
  · rw [show ifx t = true from h] at q
    walk_at "W"
    exact q
  rw [show ifx t = false from h] at q
  walk_at "W"
  refine Op2.inT (n := 1) (n' := 0) rfl rfl (by omega) rfl ?_
  walk_at "W"
  refine ifX_c (fun h => ?_) (fun h => ?_)
  · rw [show sfx t = true from h] at q
    walk_at "W"
    exact q
  rw [show sfx t = false from h] at q
  walk_at "W"
  exact q
theorem c_bounds {G : Gl} (I : IsG G) {p : Int} {t : Str} {σ : Hp} {Q : AV → Hp → Prop} (q : Q (.tup [.int (bnd p t).1, .int (bnd p t).2]) σ) : CallOk G 1 (.ref 219) [.int p, .str t] σ Q := by
  refine CallOk.go'' (n := 0) (ps := ["priority", "type_text"]) (ls' := ["lower"]) (gs := []) (FnIn.lit (by rw [I.k]; walk_at "FN") (by conv => lhs; whnf)) I.g rfl ?_
  rintro X rfl hn ⟨l0, l1, l2, -⟩ -
  dsimp only [padL, List.map, List.cons_append, List.nil_append, List.length_cons, List.length_nil, List.replicate, Nat.zero_add]
  unfold bnd at q
  walk_at "W"
  refine ifX_c (fun h => ?_) (fun h => ?_)
  · rw [h] at q
    walk_at "W"
    exact q
  rw [h] at q
  walk_at "W"
  refine ifX_c (fun h => ?_) (fun h => ?_)
  · rw [h] at q
    walk_at "W"
    exact q
  rw [h] at q
  walk_at "W"
  refine ifX_c (fun h => ?_) (fun h => ?_)
  · rw [h] at q
    walk_at "W"
    exact q
  rw [h] at q
  walk_at "W"
  refine ifX_c (fun h => ?_) (fun h => ?_)
  · rw [h] at q
    walk_at "W"
    exact q
  rw [h] at q
  walk_at "W"
  refine ifX_c (fun h => ?_) (fun h => ?_)
  · rw [h] at q
    walk_at "W"
    exact q
  rw [h] at q
  walk_at "W"
  refine ifX_c (fun h => ?_) (fun h => ?_)
  · rw [h] at q
    walk_at "W"
    exact q
  rw [h] at q
  walk_at "W"
  exact q
theorem c_table_prefix {G : Gl} (I : IsG G) {t : Str} {o od sym pt it st : Addr} {σ : Hp} {Q : AV → Hp → Prop} (ho : (o, .inst 286 od) ∈ σ) (hod : (od, .ns nmOp [some (.ref sym), some (.ref pt), some (.ref it), some (.ref st)]) ∈ σ) (hk : fixK t = .str "prefix") (q : Q (.ref pt) σ) : CallOk G 4 (.ref 269) [.ref o, .str t] σ Q := by
  refine CallOk.go'' (n := 3) (ps := ["self", "type_text"]) (ls' := ["kind"]) (gs := ["fixity"]) (FnIn.lit (by rw [I.k]; walk_at "FN") (by conv => lhs; whnf)) I.g rfl ?_
  rintro X rfl hn ⟨l0, l1, l2, -⟩ ⟨g0, -⟩
  have q_fixity := I.fs.gl.f_fixity
  have aOp_prefixes := I.fs.op.a_prefixes
  have aOp_infixes := I.fs.op.a_infixes
  have aOp_postfixes := I.fs.op.a_postfixes
  dsimp only [padL, List.map, List.cons_append, List.nil_append, List.length_cons, List.length_nil, List.replicate, Nat.zero_add]
  walk_at "W"
  refine Cl.fn' (c_fixity I ?_) (le_n hn (by decide))
  rw [hk]
  walk_at "W"
  refine ifX_t (by decide +kernel) ?_
  walk_at "W"
  exact q
theorem c_add_prefix {G : Gl} (I : IsG G) {t : Str} {p a : Int} {kvs : List (Int × AV)} {σ' : Hp} {o od sym pt it st : Addr} {σ : Hp} {Q : AV → Hp → Prop} (ho : (o, .inst 286 od) ∈ σ) (hod : (od, .ns nmOp [some (.ref sym), some (.ref pt), some (.ref it), some (.ref st)]) ∈ σ) (hk : fixK t = .str "prefix") (hp : 0 < p) (hz : kvs.length ≤ 1000) (u : UpdL pt (.dI kvs) (.dI (aput kvs a (.tup [.int p, .str t]))) σ σ') (q : Q .none σ') : CallOk G 5 (.ref 276) [.ref o, .int p, .str t, .int a] σ Q := by
  refine CallOk.go'' (n := 4) (ps := ["self", "priority", "type_text", "a"]) (ls' := ["table"]) (gs := []) (FnIn.lit (by rw [I.k]; walk_at "FN") (by conv => lhs; whnf)) I.g rfl ?_
  rintro X rfl hn ⟨l0, l1, l2, l3, l4, -⟩ -
  have mOp_table_of := I.fs.op.m_table_of
  dsimp only [padL, List.map, List.cons_append, List.nil_append, List.length_cons, List.length_nil, List.replicate, Nat.zero_add]
  walk_at "W"
  refine Cl.fn' (c_table_prefix I ho hod hk ?_) (le_n hn (by decide))
  walk_at "W"
  refine ifX_t (by simpa using hp) ?_
  walk_at "W"
  refine Xs.setItemI rfl ?_
  walk_at "W"
  refine ⟨_, _, _, _, rfl, rfl, u, by omega, by omega, ?_⟩
  walk_at "W"
  exact q
theorem c_table_infix {G : Gl} (I : IsG G) {t : Str} {o od sym pt it st : Addr} {σ : Hp} {Q : AV → Hp → Prop} (ho : (o, .inst 286 od) ∈ σ) (hod : (od, .ns nmOp [some (.ref sym), some (.ref pt), some (.ref it), some (.ref st)]) ∈ σ) (hk : fixK t = .str "infix") (q : Q (.ref it) σ) : CallOk G 4 (.ref 269) [.ref o, .str t] σ Q := by
  refine CallOk.go'' (n := 3) (ps := ["self", "type_text"]) (ls' := ["kind"]) (gs := ["fixity"]) (FnIn.lit (by rw [I.k]; walk_at "FN") (by conv => lhs; whnf)) I.g rfl ?_
  rintro X rfl hn ⟨l0, l1, l2, -⟩ ⟨g0, -⟩
  have q_fixity := I.fs.gl.f_fixity
  have aOp_prefixes := I.fs.op.a_prefixes
  have aOp_infixes := I.fs.op.a_infixes
  have aOp_postfixes := I.fs.op.a_postfixes
  dsimp only [padL, List.map, List.cons_append, List.nil_append, List.length_cons, List.length_nil, List.replicate, Nat.zero_add]
  walk_at "W"
  refine Cl.fn' (c_fixity I ?_) (le_n hn (by decide))
  rw [hk]
  walk_at "W"
  refine ifX_f (by decide +kernel) ?_
  walk_at "W"
  refine ifX_t (by decide +kernel) ?_
  walk_at "W"
  exact q
theorem c_add_infix {G : Gl} (I : IsG G) {t : Str} {p a : Int} {kvs : List (Int × AV)} {σ' : Hp} {o od sym pt it st : Addr} {σ : Hp} {Q : AV → Hp → Prop} (ho : (o, .inst 286 od) ∈ σ) (hod : (od, .ns nmOp [some (.ref sym), some (.ref pt), some (.ref it), some (.ref st)]) ∈ σ) (hk : fixK t = .str "infix") (hp : 0 < p) (hz : kvs.length ≤ 1000) (u : UpdL it (.dI kvs) (.dI (aput kvs a (.tup [.int p, .str t]))) σ σ') (q : Q .none σ') : CallOk G 5 (.ref 276) [.ref o, .int p, .str t, .int a] σ Q := by
  refine CallOk.go'' (n := 4) (ps := ["self", "priority", "type_text", "a"]) (ls' := ["table"]) (gs := []) (FnIn.lit (by rw [I.k]; walk_at "FN") (by conv => lhs; whnf)) I.g rfl ?_
  rintro X rfl hn ⟨l0, l1, l2, l3, l4, -⟩ -
  have mOp_table_of := I.fs.op.m_table_of
  dsimp only [padL, List.map, List.cons_append, List.nil_append, List.length_cons, List.length_nil, List.replicate, Nat.zero_add]
  walk_at "W"
  refine Cl.fn' (c_table_infix I ho hod hk ?_) (le_n hn (by decide))
  walk_at "W"
  refine ifX_t (by simpa using hp) ?_
  walk_at "W"
  refine Xs.setItemI rfl ?_
  walk_at "W"
  refine ⟨_, _, _, _, rfl, rfl, u, by omega, by omega, ?_⟩
  walk_at "W"
  exact q
theorem c_table_postfix {G : Gl} (I : IsG G) {t : Str} {o od sym pt it st : Addr} {σ : Hp} {Q : AV → Hp → Prop} (ho : (o, .inst 286 od) ∈ σ) (hod : (od, .ns nmOp [some (.ref sym), some (.ref pt), some (.ref it), some (.ref st)]) ∈ σ) (hk : fixK t = .str "postfix") (q : Q (.ref st) σ) : CallOk G 4 (.ref 269) [.ref o, .str t] σ Q := by
  refine CallOk.go'' (n := 3) (ps := ["self", "type_text"]) (ls' := ["kind"]) (gs := ["fixity"]) (FnIn.lit (by rw [I.k]; walk_at "FN") (by conv => lhs; whnf)) I.g rfl ?_
  rintro X rfl hn ⟨l0, l1, l2, -⟩ ⟨g0, -⟩
  have q_fixity := I.fs.gl.f_fixity
  have aOp_prefixes := I.fs.op.a_prefixes
  have aOp_infixes := I.fs.op.a_infixes
  have aOp_postfixes := I.fs.op.a_postfixes
  dsimp only [padL, List.map, List.cons_append, List.nil_append, List.length_cons, List.length_nil, List.replicate, Nat.zero_add]
  walk_at "W"
  refine Cl.fn' (c_fixity I ?_) (le_n hn (by decide))
  rw [hk]
  walk_at "W"
  refine ifX_f (by decide +kernel) ?_
  walk_at "W"
  refine ifX_f (by decide +kernel) ?_
  walk_at "W"
  exact q
theorem c_add_postfix {G : Gl} (I : IsG G) {t : Str} {p a : Int} {kvs : List (Int × AV)} {σ' : Hp} {o od sym pt it st : Addr} {σ : Hp} {Q : AV → Hp → Prop} (ho : (o, .inst 286 od) ∈ σ) (hod : (od, .ns nmOp [some (.ref sym), some (.ref pt), some (.ref it), some (.ref st)]) ∈ σ) (hk : fixK t = .str "postfix") (hp : 0 < p) (hz : kvs.length ≤ 1000) (u : UpdL st (.dI kvs) (.dI (aput kvs a (.tup [.int p, .str t]))) σ σ') (q : Q .none σ') : CallOk G 5 (.ref 276) [.ref o, .int p, .str t, .int a] σ Q := by
  refine CallOk.go'' (n := 4) (ps := ["self", "priority", "type_text", "a"]) (ls' := ["table"]) (gs := []) (FnIn.lit (by rw [I.k]; walk_at "FN") (by conv => lhs; whnf)) I.g rfl ?_
  rintro X rfl hn ⟨l0, l1, l2, l3, l4, -⟩ -
  have mOp_table_of := I.fs.op.m_table_of
  dsimp only [padL, List.map, List.cons_append, List.nil_append, List.length_cons, List.length_nil, List.replicate, Nat.zero_add]
  walk_at "W"
  refine Cl.fn' (c_table_postfix I ho hod hk ?_) (le_n hn (by decide))
  walk_at "W"
  refine ifX_t (by simpa using hp) ?_
  walk_at "W"
  refine Xs.setItemI rfl ?_
  walk_at "W"
  refine ⟨_, _, _, _, rfl, rfl, u, by omega, by omega, ?_⟩
  walk_at "W"
  exact q
theorem c_op_prefix {G : Gl} (I : IsG G) {a : Int} {kvs : List (Int × AV)} {o od sym pt it st : Addr} {σ : Hp} {Q : AV → Hp → Prop} (ho : (o, .inst 286 od) ∈ σ) (hod : (od, .ns nmOp [some (.ref sym), some (.ref pt), some (.ref it), some (.ref st)]) ∈ σ) (ht : (pt, .dI kvs) ∈ σ) (q : Q ((aget kvs a).getD .none) σ) : CallOk G 2 (.ref 241) [.ref o, .int a] σ Q := by
  refine CallOk.go'' (n := 1) (ps := ["self", "a"]) (ls' := []) (gs := []) (FnIn.lit (by rw [I.k]; walk_at "FN") (by conv => lhs; whnf)) I.g rfl ?_
  rintro X rfl hn ⟨l0, l1, -⟩ -
  have aOp_prefixes := I.fs.op.a_prefixes
  dsimp only [padL, List.map, List.cons_append, List.nil_append, List.length_cons, List.length_nil, List.replicate, Nat.zero_add]
  walk_at "W"
  exact q
theorem c_op_infix {G : Gl} (I : IsG G) {a : Int} {kvs : List (Int × AV)} {o od sym pt it st : Addr} {σ : Hp} {Q : AV → Hp → Prop} (ho : (o, .inst 286 od) ∈ σ) (hod : (od, .ns nmOp [some (.ref sym), some (.ref pt), some (.ref it), some (.ref st)]) ∈ σ) (ht : (it, .dI kvs) ∈ σ) (q : Q ((aget kvs a).getD .none) σ) : CallOk G 2 (.ref 248) [.ref o, .int a] σ Q := by
  refine CallOk.go'' (n := 1) (ps := ["self", "a"]) (ls' := []) (gs := []) (FnIn.lit (by rw [I.k]; walk_at "FN") (by conv => lhs; whnf)) I.g rfl ?_
  rintro X rfl hn ⟨l0, l1, -⟩ -
  have aOp_infixes := I.fs.op.a_infixes
  dsimp only [padL, List.map, List.cons_append, List.nil_append, List.length_cons, List.length_nil, List.replicate, Nat.zero_add]
  walk_at "W"
  exact q
theorem c_op_postfix {G : Gl} (I : IsG G) {a : Int} {kvs : List (Int × AV)} {o od sym pt it st : Addr} {σ : Hp} {Q : AV → Hp → Prop} (ho : (o, .inst 286 od) ∈ σ) (hod : (od, .ns nmOp [some (.ref sym), some (.ref pt), some (.ref it), some (.ref st)]) ∈ σ) (ht : (st, .dI kvs) ∈ σ) (q : Q ((aget kvs a).getD .none) σ) : CallOk G 2 (.ref 255) [.ref o, .int a] σ Q := by
  refine CallOk.go'' (n := 1) (ps := ["self", "a"]) (ls' := []) (gs := []) (FnIn.lit (by rw [I.k]; walk_at "FN") (by conv => lhs; whnf)) I.g rfl ?_
  rintro X rfl hn ⟨l0, l1, -⟩ -
  have aOp_postfixes := I.fs.op.a_postfixes
  dsimp only [padL, List.map, List.cons_append, List.nil_append, List.length_cons, List.length_nil, List.replicate, Nat.zero_add]
  walk_at "W"
  exact q
theorem c_functor {G : Gl} (I : IsG G) {a n k : Int} {kvs : List (List Int × AV)} {x dx tl an fl fn : Addr} {σ : Hp} {Q : AV → Hp → Prop} (hx : (x, .inst 154 dx) ∈ σ) (hd : (dx, .ns nmSy [some (.ref tl), some (.ref an), some (.ref fl), some (.ref fn)]) ∈ σ) (hf : (fn, .dT kvs) ∈ σ) (hk : aget kvs [a, n] = some (.int k)) (h0 : 0 ≤ k) (q : Q (.int k) σ) : CallOk G 2 (.ref 102) [.ref x, .int a, .int n] σ Q := by
  refine CallOk.go'' (n := 1) (ps := ["self", "atom", "arity"]) (ls' := ["key", "found", "number"]) (gs := ["len"]) (FnIn.lit (by rw [I.k]; walk_at "FN") (by conv => lhs; whnf)) I.g rfl ?_
  rintro X rfl hn ⟨l0, l1, l2, l3, l4, l5, -⟩ ⟨g0, -⟩
  have q_len := I.fs.gl.b_len
  have aSy_functors := I.fs.sy.a_functors
  have aSy_functor_numbers := I.fs.sy.a_functor_numbers
  dsimp only [padL, List.map, List.cons_append, List.nil_append, List.length_cons, List.length_nil, List.replicate, Nat.zero_add]
  walk_at "W"
  rw [hk, Option.getD_some]
  walk_at "W"
  refine ifX_t (by simpa using h0) ?_
  walk_at "W"
  exact q
theorem c_functor_new {G : Gl} (I : IsG G) {a n : Int} {fs : List AV} {kvs : List (List Int × AV)} {σ₁ σ₂ : Hp} {x dx tl an fl fn : Addr} {σ : Hp} {Q : AV → Hp → Prop} (hx : (x, .inst 154 dx) ∈ σ) (hd : (dx, .ns nmSy [some (.ref tl), some (.ref an), some (.ref fl), some (.ref fn)]) ∈ σ) (hf : (fn, .dT kvs) ∈ σ) (hl : (fl, .list fs) ∈ σ) (hk : aget kvs [a, n] = none) (u1 : UpdL fl (.list fs) (.list (fs ++ [.tup [.int a, .int n]])) σ σ₁) (hx1 : (x, .inst 154 dx) ∈ σ₁) (hd1 : (dx, .ns nmSy [some (.ref tl), some (.ref an), some (.ref fl), some (.ref fn)]) ∈ σ₁) (u2 : UpdL fn (.dT kvs) (.dT (aput kvs [a, n] (.int fs.length))) σ₁ σ₂) (hz : fs.length ≤ 1000) (hz2 : kvs.length ≤ 1000) (q : Q (.int fs.length) σ₂) : CallOk G 2 (.ref 102) [.ref x, .int a, .int n] σ Q := by
  refine CallOk.go'' (n := 1) (ps := ["self", "atom", "arity"]) (ls' := ["key", "found", "number"]) (gs := ["len"]) (FnIn.lit (by rw [I.k]; walk_at "FN") (by conv => lhs; whnf)) I.g rfl ?_
  rintro X rfl hn ⟨l0, l1, l2, l3, l4, l5, -⟩ ⟨g0, -⟩
  have q_len := I.fs.gl.b_len
  have aSy_functors := I.fs.sy.a_functors
  have aSy_functor_numbers := I.fs.sy.a_functor_numbers
  dsimp only [padL, List.map, List.cons_append, List.nil_append, List.length_cons, List.length_nil, List.replicate, Nat.zero_add]
  walk_at "W"
  rw [hk, Option.getD_none]
  walk_at "W"
  refine ifX_f (by decide) ?_
  walk_at "W"
  refine Xs.setItemT rfl ?_
  walk_at "W"
  refine ⟨_, _, [a, n], _, rfl, rfl, u2, by omega, by omega, ?_⟩
  walk_at "W"
  exact q
theorem sy_atom {G : Gl} (I : IsG G) {x dx tl an fl fn : Addr} {t : Str} {k : Int} {kvs : List (Str × AV)} {σ : Hp} {Q : AV → Hp → Prop} (hx : (x, .inst 154 dx) ∈ σ) (hd : (dx, .ns nmSy [some (.ref tl), some (.ref an), some (.ref fl), some (.ref fn)]) ∈ σ)
  (ha : (an, .dS kvs) ∈ σ) (hk : aget kvs t = some (.int k)) (h0 : 0 ≤ k) (q : Q (.int k) σ) : CallOk G 2 (.ref 88) [.ref x, .str t] σ Q := by
  have q_len := I.fs.gl.b_len
  have aSy_texts := I.fs.sy.a_texts
  have aSy_atom_numbers := I.fs.sy.a_atom_numbers
  refine CallOk.go'' (n := 1) (ps := ["self", "text"]) (ls' := ["found", "number"]) (gs := ["len"]) (FnIn.lit (by rw [I.k]; walk_at "FN") (by conv => lhs; whnf)) I.g rfl ?_
  rintro X rfl hn ⟨l0, l1, l2, l3, -⟩ ⟨g0, -⟩
  dsimp only [padL, List.map, List.cons_append, List.nil_append, List.length_cons, List.length_nil, List.replicate, Nat.zero_add]
  repeat walk_at "S"
  rw [hk, Option.getD_some]
  repeat walk_at "S"
  refine ifX_t (by simpa using h0) ?_
  repeat walk_at "S"
  exact q
theorem sy_atom_new {G : Gl} (I : IsG G) {x dx tl an fl fn : Addr} {t : Str} {ts : List AV} {kvs : List (Str × AV)} {σ σ₁ σ₂ : Hp} {Q : AV → Hp → Prop} (hx : (x, .inst 154 dx) ∈ σ) (hd : (dx, .ns nmSy [some (.ref tl), some (.ref an), some (.ref fl), some (.ref fn)]) ∈ σ)
  (ha : (an, .dS kvs) ∈ σ) (ht : (tl, .list ts) ∈ σ) (hx1 : (x, .inst 154 dx) ∈ σ₁) (hd1 : (dx, .ns nmSy [some (.ref tl), some (.ref an), some (.ref fl), some (.ref fn)]) ∈ σ₁) (hk : aget kvs t = none) (hz : ts.length ≤ 1000) (hz2 : kvs.length ≤ 1000) (u1 : UpdL tl (.list ts) (.list (ts ++ [.str t])) σ σ₁)
  (u2 : UpdL an (.dS kvs) (.dS (aput kvs t (.int ts.length))) σ₁ σ₂) (q : Q (.int ts.length) σ₂) : CallOk G 2 (.ref 88) [.ref x, .str t] σ Q := by
  have q_len := I.fs.gl.b_len
  have aSy_texts := I.fs.sy.a_texts
  have aSy_atom_numbers := I.fs.sy.a_atom_numbers
  refine CallOk.go'' (n := 1) (ps := ["self", "text"]) (ls' := ["found", "number"]) (gs := ["len"]) (FnIn.lit (by rw [I.k]; walk_at "FN") (by conv => lhs; whnf)) I.g rfl ?_
  rintro X rfl hn ⟨l0, l1, l2, l3, -⟩ ⟨g0, -⟩
  dsimp only [padL, List.map, List.cons_append, List.nil_append, List.length_cons, List.length_nil, List.replicate, Nat.zero_add]
  repeat walk_at "S"
  rw [hk, Option.getD_none]
  repeat walk_at "S"
  refine ifX_f (by decide) ?_
  repeat walk_at "S"
  refine Xs.setItemS rfl ?_
  repeat walk_at "S"
  refine ⟨_, _, _, _, rfl, rfl, u2, by omega, by omega, ?_⟩
  repeat walk_at "S"
  exact q
theorem c_func {G : Gl} (I : IsG G) {t : Str} {a n : Int} {fs : List AV} {kvs : List (List Int × AV)} {avs : List (Str × AV)} {σ₁ σ₂ : Hp} {x dx tl an fl fn : Addr} {σ : Hp} {Q : AV → Hp → Prop} (hx : (x, .inst 154 dx) ∈ σ) (hd : (dx, .ns nmSy [some (.ref tl), some (.ref an), some (.ref fl), some (.ref fn)]) ∈ σ) (ha : (an, .dS avs) ∈ σ) (hk0 : aget avs t = some (.int a)) (h0 : 0 ≤ a) (hf : (fn, .dT kvs) ∈ σ) (hl : (fl, .list fs) ∈ σ) (hk : aget kvs [a, n] = none) (u1 : UpdL fl (.list fs) (.list (fs ++ [.tup [.int a, .int n]])) σ σ₁) (hx1 : (x, .inst 154 dx) ∈ σ₁) (hd1 : (dx, .ns nmSy [some (.ref tl), some (.ref an), some (.ref fl), some (.ref fn)]) ∈ σ₁) (u2 : UpdL fn (.dT kvs) (.dT (aput kvs [a, n] (.int fs.length))) σ₁ σ₂) (hz : fs.length ≤ 1000) (hz2 : kvs.length ≤ 1000) (q : Q (.int fs.length) σ₂) : CallOk G 3 (.ref 109) [.ref x, .str t, .int n] σ Q := by
  refine CallOk.go'' (n := 2) (ps := ["self", "text", "arity"]) (ls' := []) (gs := []) (FnIn.lit (by rw [I.k]; walk_at "FN") (by conv => lhs; whnf)) I.g rfl ?_
  rintro X rfl hn ⟨l0, l1, l2, -⟩ -
  have mSy_atom := I.fs.sy.m_atom
  have mSy_functor := I.fs.sy.m_functor
  have aFr_functor := I.fs.fr.a_functor
  dsimp only [padL, List.map, List.cons_append, List.nil_append, List.length_cons, List.length_nil, List.replicate, Nat.zero_add]
  walk_at "W"
  refine Cl.fn' (sy_atom I hx hd ha hk0 h0 ?_) (le_n hn (by decide))
  walk_at "W"
  refine Cl.fn' (c_functor_new I hx hd hf hl hk u1 hx1 hd1 u2 hz hz2 ?_) (le_n hn (by decide))
  walk_at "W"
  exact q
theorem c_Frame_init {G : Gl} (I : IsG G) {x dx : Addr} {kind : Str} {lim : Int} {R : Hp} {Q : AV → Hp → Prop} (q : ∀ il, Q .none ((il, .list []) :: (x, .inst 309 dx) :: (dx, .ns nmFr [some (.str kind), some (.int lim), some (.int (-1)), some (.int (-1)), some (.int 0), some .none, some (.ref il)]) :: R)) : CallOk G 1 (.ref 306) [.ref x, .str kind, .int lim] ((x, .inst 309 dx) :: (dx, .ns nmFr []) :: R) Q := by
  refine CallOk.go'' (n := 0) (ps := ["self", "kind", "limit"]) (ls' := []) (gs := []) (FnIn.lit (by rw [I.k]; walk_at "FN") (by conv => lhs; whnf)) I.g rfl ?_
  rintro X rfl hn ⟨l0, l1, l2, -⟩ -
  have mSy_functor := I.fs.sy.m_functor
  have aFr_kind := I.fs.fr.a_kind
  have aFr_limit := I.fs.fr.a_limit
  have aFr_functor := I.fs.fr.a_functor
  have aFr_name := I.fs.fr.a_name
  have aFr_priority := I.fs.fr.a_priority
  have aFr_left := I.fs.fr.a_left
  have aFr_items := I.fs.fr.a_items
  have stFr := I.fs.fr.st
  have aPa_limit := I.fs.pa.a_limit
  have aPa_priority := I.fs.pa.a_priority
  have stPa := I.fs.pa.st
  dsimp only [padL, List.map, List.cons_append, List.nil_append, List.length_cons, List.length_nil, List.replicate, Nat.zero_add]
  walk_at "W"
  intro il _
  walk_at "W"
  exact q il
open PySem PySem.W PySem.Calls PyProof.Rows PySem.SeqAt
noncomputable def fixA : List Str := ["[]", ".", "{}", "-", "+", "*", "/", ",", "|", ";", "->", "\\+", ":-", "?-", "-->", "!", "true", "fail", "false", "call", "=", "^", "error", "", "end_of_file", "system", "$VAR", "catch", "throw"]
noncomputable def fixF : List (Str × Int) := [(".", 2), (",", 2), (";", 2), ("->", 2), ("\\+", 1), (":-", 2), (":-", 1), ("?-", 1), ("-->", 2), ("{}", 1), ("=", 2), ("^", 2), ("-", 1), ("-", 2), ("+", 2), ("/", 2), ("error", 2), ("$VAR", 1), ("catch", 3), ("throw", 1), ("!", 0), ("true", 0), ("fail", 0), ("false", 0), ("call", 1), ("call", 2), ("call", 3), ("call", 4), ("call", 5), ("call", 6), ("call", 7), ("call", 8)]
noncomputable def fnK : List (Int × Int) := [(1, 2), (7, 2), (9, 2), (10, 2), (11, 1), (12, 2), (12, 1), (13, 1), (14, 2), (2, 1), (20, 2), (21, 2), (3, 1), (3, 2), (4, 2), (6, 2), (22, 2), (26, 1), (27, 3), (28, 1), (15, 0), (16, 0), (17, 0), (18, 0), (19, 1), (19, 2), (19, 3), (19, 4), (19, 5), (19, 6), (19, 7), (19, 8)]
theorem fixA_nd : fixA.Nodup := by decide +kernel
theorem fnK_nd : fnK.Nodup := by decide +kernel
theorem fixFK : (fixF.zip fnK).all (fun p => p.1.2 == p.2.2 && fixA[p.2.1.toNat]? == some p.1.1 && decide (0 ≤ p.2.1)) = true := by decide +kernel
noncomputable def anD (ts : List Str) : List (Str × AV) := ts.zipIdx.map fun p => (p.1, .int p.2)
noncomputable def fnD (fk : List (Int × Int)) : List (List Int × AV) := fk.zipIdx.map fun p => ([p.1.1, p.1.2], .int p.2)
noncomputable def flD (fk : List (Int × Int)) : List AV := fk.map fun p => .tup [.int p.1, .int p.2]
theorem anD_keys (ts : List Str) : (anD ts).map (·.1) = ts := by
  unfold anD; rw [List.map_map]; show ts.zipIdx.map (fun p => p.1) = ts; simp
theorem anD_len (ts : List Str) : (anD ts).length = ts.length := by unfold anD; simp
theorem fnD_len (ts : List (Int × Int)) : (fnD ts).length = ts.length := by unfold fnD; simp
theorem flD_len (ts : List (Int × Int)) : (flD ts).length = ts.length := by unfold flD; simp
theorem anD_none {ts : List Str} {t : Str} (h : t ∉ ts) : aget (anD ts) t = none := aget_none (by rw [anD_keys]; exact h)
theorem anD_put {ts : List Str} {t : Str} (h : t ∉ ts) : aput (anD ts) t (.int ts.length) = anD (ts ++ [t]) := by
  rw [aput_new (by rw [anD_keys]; exact h)]
  unfold anD; simp [List.zipIdx_append]
theorem anD_get {ts : List Str} (nd : ts.Nodup) {j : Nat} {t : Str} (h : ts[j]? = some t) : aget (anD ts) t = some (.int j) :=
  aget_at (i := j) (by rw [anD_keys]; exact nd) (by unfold anD; simp [List.getElem?_map, List.getElem?_zipIdx, h])
theorem fnD_keys (ts : List (Int × Int)) : (fnD ts).map (·.1) = ts.map fun p => [p.1, p.2] := by
  have : ∀ (l : List (Int × Int)) (k : Nat), ((l.zipIdx k).map fun p => (([p.1.1, p.1.2] : List Int), AV.int p.2)).map (·.1) = l.map fun p => [p.1, p.2] := by
    intro l
    induction l with
    | nil => intro k; rfl
    | cons a l ih => intro k; simp only [List.zipIdx_cons, List.map_cons, ih]
  exact this ts 0
theorem pair_inj {a b : Int × Int} (h : ([a.1, a.2] : List Int) = [b.1, b.2]) : a = b := by
  obtain ⟨a1, a2⟩ := a; obtain ⟨b1, b2⟩ := b; simp at h; simp [h]
theorem fnD_no {ts : List (Int × Int)} {p : Int × Int} (h : p ∉ ts) : [p.1, p.2] ∉ (fnD ts).map (·.1) := by
  rw [fnD_keys]; intro q; obtain ⟨x, hx, e⟩ := List.mem_map.mp q; exact h (pair_inj e ▸ hx)
theorem fnD_none {ts : List (Int × Int)} {a n : Int} (h : (a, n) ∉ ts) : aget (fnD ts) [a, n] = none := aget_none (fnD_no h)
theorem fnD_put {ts : List (Int × Int)} {a n : Int} (h : (a, n) ∉ ts) : aput (fnD ts) [a, n] (.int ts.length) = fnD (ts ++ [(a, n)]) := by
  rw [aput_new (fnD_no h)]
  unfold fnD; simp [List.zipIdx_append]
theorem fnD_get {ts : List (Int × Int)} (nd : ts.Nodup) {j : Nat} {a n : Int} (h : ts[j]? = some (a, n)) : aget (fnD ts) [a, n] = some (.int j) := by
  refine aget_at (i := j) ?_ (by unfold fnD; simp [List.getElem?_map, List.getElem?_zipIdx, h])
  rw [fnD_keys]
  exact List.pairwise_map.mpr (nd.imp fun hne e => hne (pair_inj e))
theorem take_not {α : Type} {L : List α} (nd : L.Nodup) {i : Nat} {a : α} (h : L[i]? = some a) : a ∉ L.take i := by
  intro q
  obtain ⟨j, hj, e⟩ := List.mem_iff_getElem.mp q
  obtain ⟨hlt, e2⟩ := List.getElem?_eq_some_iff.mp h
  rw [List.length_take] at hj
  rw [List.getElem_take] at e
  have h2 : j < L.length := by omega
  have := (List.getElem_inj (h₀ := h2) (h₁ := hlt) nd).mp (e.trans e2.symm)
  omega
theorem c_fixed_atoms {G : Gl} (I : IsG G) {σ : Hp} {Q : AV → Hp → Prop} (q : Q (.tup (fixA.map .str)) σ) : CallOk G 1 (.ref 60) [] σ Q := by
  refine CallOk.go'' (n := 0) (ps := []) (ls' := []) (gs := []) (FnIn.lit (by rw [I.k]; walk_at "FN") (by conv => lhs; whnf)) I.g rfl ?_
  rintro X rfl hn - -
  dsimp only [padL, List.map, List.cons_append, List.nil_append, List.length_cons, List.length_nil, List.replicate, Nat.zero_add]
  refine Xs.cons ?_
  refine Xs.ret ?_
  with_reducible refine' Ev.lits0 (fixA.map .str) ?h1 ?h2 ?g0 ?g1 ?h4
  case h1 => rfl
  case h2 => decide
  case g0 => kernel_rfl
  case g1 => kernel_rfl
  case h4 =>
    walk_at "W"
    exact q
theorem c_fixed_functors {G : Gl} (I : IsG G) {σ : Hp} {Q : AV → Hp → Prop} (q : Q (.tup (fixF.map fun p => .tup [.str p.1, .int p.2])) σ) : CallOk G 1 (.ref 67) [] σ Q := by
  refine CallOk.go'' (n := 0) (ps := []) (ls' := []) (gs := []) (FnIn.lit (by rw [I.k]; walk_at "FN") (by conv => lhs; whnf)) I.g rfl ?_
  rintro X rfl hn - -
  dsimp only [padL, List.map, List.cons_append, List.nil_append, List.length_cons, List.length_nil, List.replicate, Nat.zero_add]
  refine Xs.cons ?_
  refine Xs.ret ?_
  with_reducible refine' Ev.lits1 (fixF.map fun p => [.str p.1, .int p.2]) ?h1 ?h2 ?g0 ?g1 ?g2 ?h4
  case h1 => rfl
  case h2 => decide
  case g0 => kernel_rfl
  case g1 => kernel_rfl
  case g2 => kernel_rfl
  case h4 =>
    rw [List.map_map]
    walk_at "W"
    exact q
/-- what Symbols hold -/
noncomputable abbrev syS (tl an fl fn : Addr) (ts : List Str) (fk : List (Int × Int)) (R : Hp) : Hp := (fn, .dT (fnD fk)) :: (fl, .list (flD fk)) :: (an, .dS (anD ts)) :: (tl, .list (ts.map .str)) :: R
inductive syI (x dx tl an fl fn : Addr) (R : Hp) (fk : List (Int × Int)) (L : List Str) (i : Nat) (m : Loc) (σ : Hp) : Prop
  | mk (p : Option AV) : m = [some (.ref x), p, none] → σ = syS tl an fl fn (L.take i) fk ((x, .inst 154 dx) :: (dx, .ns nmSy [some (.ref tl), some (.ref an), some (.ref fl), some (.ref fn)]) :: R) → syI x dx tl an fl fn R fk L i m σ
inductive syJ (x dx tl an fl fn : Addr) (R : Hp) (i : Nat) (m : Loc) (σ : Hp) : Prop
  | mk (p p' : Option AV) : m = [some (.ref x), p, p'] → σ = syS tl an fl fn fixA (fnK.take i) ((x, .inst 154 dx) :: (dx, .ns nmSy [some (.ref tl), some (.ref an), some (.ref fl), some (.ref fn)]) :: R) → syJ x dx tl an fl fn R i m σ
theorem c_Symbols_init {G : Gl} (I : IsG G) {x dx : Addr} {R : Hp} {Q : AV → Hp → Prop} (q : ∀ tl an fl fn, Q .none (syS tl an fl fn fixA fnK ((x, .inst 154 dx) :: (dx, .ns nmSy [some (.ref tl), some (.ref an), some (.ref fl), some (.ref fn)]) :: R))) : CallOk G 5 (.ref 81) [.ref x] ((x, .inst 154 dx) :: (dx, .ns nmSy []) :: R) Q := by
  refine CallOk.go'' (n := 4) (ps := ["self"]) (ls' := ["text", "row"]) (gs := ["fixed_atoms", "fixed_functors"]) (FnIn.lit (by rw [I.k]; walk_at "FN") (by conv => lhs; whnf)) I.g rfl ?_
  rintro X rfl hn ⟨l0, l1, l2, -⟩ ⟨g0, g1, -⟩
  have q_fixed_atoms := I.fs.gl.f_fixed_atoms
  have q_fixed_functors := I.fs.gl.f_fixed_functors
  have aSy_texts := I.fs.sy.a_texts
  have aSy_atom_numbers := I.fs.sy.a_atom_numbers
  have aSy_functors := I.fs.sy.a_functors
  have aSy_functor_numbers := I.fs.sy.a_functor_numbers
  have mSy_atom := I.fs.sy.m_atom
  have mSy_func := I.fs.sy.m_func
  have stSy := I.fs.sy.st
  dsimp only [padL, List.map, List.cons_append, List.nil_append, List.length_cons, List.length_nil, List.replicate, Nat.zero_add]
  walk_at "W"
  intro tl _
  walk_at "W"
  refine Ev.dictS fun an => ?_
  walk_at "W"
  intro fl _
  walk_at "W"
  refine Ev.dictT fun fn => ?_
  walk_at "W"
  refine Xs.forTup (by walk_at "L") (fun _ => rfl) ?_
  walk_at "W"
  refine Cl.fn' (c_fixed_atoms I ?_) (le_n hn (by decide))
  refine ⟨_, rfl, syI x dx tl an fl fn R [] fixA, ⟨_, rfl, rfl⟩, ?_, ?_⟩
  · rintro i a m σ ha ⟨p, rfl, rfl⟩
    rw [List.getElem?_map] at ha
    obtain ⟨t, ht, rfl⟩ := Option.map_eq_some_iff.mp ha
    have hi : i < 29 := (List.getElem?_eq_some_iff.mp ht).1
    have hni := take_not fixA_nd ht
    have hlen : (fixA.take i).length = i := by rw [List.length_take]; exact Nat.min_eq_left (Nat.le_of_lt hi)
    refine ⟨_, .there .here, ?_⟩
    walk_at "W"
    refine Cl.fn' (sy_atom_new I (x := x) (dx := dx) (tl := tl) (an := an) (fl := fl) (fn := fn) (ts := (fixA.take i).map .str) (kvs := anD (fixA.take i)) (by walk_at "M") (by walk_at "M") (by walk_at "M") (by walk_at "M") (by walk_at "M") (by walk_at "M") (anD_none hni) (by rw [List.length_map, hlen]; omega) (by rw [anD_len, hlen]; omega) (.there (.there (.there .here))) (.there (.there .here)) ?_) (le_n hn (by decide))
    walk_at "W"
    refine ⟨_, rfl, ?_⟩
    rw [List.length_map, anD_put hni, take_succ_eq ht]
    dsimp only [syS]
    rw [List.map_append]
    rfl
  · rintro m σ ⟨p, rfl, rfl⟩
    rw [List.length_map, List.take_of_length_le (Nat.le_refl _)]
    walk_at "W"
    refine Xs.forTup (by walk_at "L") (fun _ => rfl) ?_
    walk_at "W"
    refine Cl.fn' (c_fixed_functors I ?_) (le_n hn (by decide))
    refine ⟨_, rfl, syJ x dx tl an fl fn R, ⟨_, _, rfl, rfl⟩, ?_, ?_⟩
    · rintro i a m σ ha ⟨p, p', rfl, rfl⟩
      rw [List.getElem?_map] at ha
      obtain ⟨⟨t, n⟩, ht, rfl⟩ := Option.map_eq_some_iff.mp ha
      have hi : i < 32 := (List.getElem?_eq_some_iff.mp ht).1
      obtain ⟨⟨k, n'⟩, hk⟩ : ∃ y, fnK[i]? = some y := ⟨fnK[i]'hi, List.getElem?_eq_getElem _⟩
      have hf := List.all_eq_true.mp fixFK ((t, n), (k, n')) (List.mem_of_getElem? (i := i) (List.getElem?_zip_eq_some.mpr ⟨ht, hk⟩))
      simp only [Bool.and_eq_true, beq_iff_eq, decide_eq_true_eq] at hf
      obtain ⟨⟨rfl, hf2⟩, hf3⟩ := hf
      have hni := take_not fnK_nd hk
      have hlen : (fnK.take i).length = i := by rw [List.length_take]; exact Nat.min_eq_left (Nat.le_of_lt hi)
      have hget := anD_get fixA_nd hf2
      rw [Int.toNat_of_nonneg hf3] at hget
      refine ⟨_, .there (.there .here), ?_⟩
      walk_at "W"
      refine Cl.fn' (c_func I (x := x) (dx := dx) (tl := tl) (an := an) (fl := fl) (fn := fn) (fs := flD (fnK.take i)) (kvs := fnD (fnK.take i)) (by walk_at "M") (by walk_at "M") (by walk_at "M") hget hf3 (by walk_at "M") (by walk_at "M") (fnD_none hni) (.there .here) (by walk_at "M") (by walk_at "M") .here (by rw [flD_len, hlen]; omega) (by rw [fnD_len, hlen]; omega) ?_) (le_n hn (by decide))
      walk_at "W"
      refine ⟨_, _, rfl, ?_⟩
      rw [flD_len, fnD_put hni, take_succ_eq hk]
      dsimp only [syS, flD]
      rw [List.map_append]
      rfl
    · rintro m σ ⟨p, p', rfl, rfl⟩
      rw [List.length_map, show fixF.length = fnK.length from rfl, List.take_length]
      walk_at "W"
      exact q tl an fl fn
open PySem PySem.W PySem.Calls PyProof.Rows PySem.SeqAt
structure MkF (K : Frag) : Prop where
  sy : ClsIn K 154 81
  op : ClsIn K 286 234
  fr : ClsIn K 309 306
  pa : ClsIn K 517 348
theorem IsG.mkf {G : Gl} (I : IsG G) : MkF G.K := by rw [I.k]; exact ⟨⟨by kernel_rfl, by kernel_rfl, by kernel_rfl⟩, ⟨by kernel_rfl, by kernel_rfl, by kernel_rfl⟩, ⟨by kernel_rfl, by kernel_rfl, by kernel_rfl⟩, ⟨by kernel_rfl, by kernel_rfl, by kernel_rfl⟩⟩
theorem mk_Symbols {G : Gl} (I : IsG G) {σ : Hp} {Q : AV → Hp → Prop} (q : ∀ x dx tl an fl fn, Q (.ref x) (syS tl an fl fn fixA fnK ((x, .inst 154 dx) :: (dx, .ns nmSy [some (.ref tl), some (.ref an), some (.ref fl), some (.ref fn)]) :: σ))) : CallOk G 6 (.ref 154) [] σ Q :=
  .make' nmSy I.g I.mkf.sy fun x dx => c_Symbols_init I fun tl an fl fn => ⟨rfl, q x dx tl an fl fn⟩
/-- what an OperatorTable holds -/
noncomputable abbrev opS (o od sym pt it st : Addr) (kp ki ks : List (Int × AV)) (R : Hp) : Hp := (st, .dI ks) :: (it, .dI ki) :: (pt, .dI kp) :: (o, .inst 286 od) :: (od, .ns nmOp [some (.ref sym), some (.ref pt), some (.ref it), some (.ref st)]) :: R
theorem c_Operators_init {G : Gl} (I : IsG G) {o od sym : Addr} {R : Hp} {Q : AV → Hp → Prop} (q : ∀ pt it st, Q .none (opS o od sym pt it st [] [(7, .tup [.int 1000, .str "xfy"])] [] R)) : CallOk G 7 (.ref 234) [.ref o, .ref sym, .bool false] ((o, .inst 286 od) :: (od, .ns nmOp []) :: R) Q := by
  refine CallOk.go'' (n := 6) (ps := ["self", "symbols", "standard"]) (ls' := ["priority", "type_text", "names", "name"]) (gs := ["COMMA_PRIORITY", "A_COMMA", "standard_rows"]) (FnIn.lit (by rw [I.k]; walk_at "FN") (by conv => lhs; whnf)) I.g rfl ?_
  rintro X rfl hn ⟨l0, l1, l2, l3, l4, l5, l6, -⟩ ⟨g0, g1, g2, -⟩
  have q_COMMA_PRIORITY := I.fs.gl.i_COMMA_PRIORITY
  have q_A_COMMA := I.fs.gl.i_A_COMMA
  have q_standard_rows := I.fs.gl.f_standard_rows
  have mSy_atom := I.fs.sy.m_atom
  have aOp_symbols := I.fs.op.a_symbols
  have aOp_prefixes := I.fs.op.a_prefixes
  have aOp_infixes := I.fs.op.a_infixes
  have aOp_postfixes := I.fs.op.a_postfixes
  have mOp_add := I.fs.op.m_add
  have stOp := I.fs.op.st
  have aPa_symbols := I.fs.pa.a_symbols
  have stPa := I.fs.pa.st
  dsimp only [padL, List.map, List.cons_append, List.nil_append, List.length_cons, List.length_nil, List.replicate, Nat.zero_add]
  walk_at "W"
  refine Ev.dictI fun pt => ?_
  walk_at "W"
  refine Ev.dictI fun it => ?_
  walk_at "W"
  refine Ev.dictI fun st => ?_
  walk_at "W"
  refine Cl.fn' (c_add_infix I (by walk_at "M") (by walk_at "M") (by kernel_rfl) (by decide) (by decide) (.there .here) ?_) (le_n hn (by decide))
  walk_at "W"
  refine ifX_f rfl ?_
  walk_at "W"
  exact q pt it st
theorem mk_Operators {G : Gl} (I : IsG G) {sym : Addr} {σ : Hp} {Q : AV → Hp → Prop} (q : ∀ o od pt it st, Q (.ref o) (opS o od sym pt it st [] [(7, .tup [.int 1000, .str "xfy"])] [] σ)) : CallOk G 8 (.ref 286) [.ref sym, .bool false] σ Q :=
  .make' nmOp I.g I.mkf.op fun x dx => c_Operators_init I fun pt it st => ⟨rfl, q x dx pt it st⟩
noncomputable abbrev frV (kind : Str) (lim fn name pr : Int) (left : AV) (il : Addr) : List (Option AV) := [some (.str kind), some (.int lim), some (.int fn), some (.int name), some (.int pr), some left, some (.ref il)]
theorem mk_Frame {G : Gl} (I : IsG G) {kind : Str} {lim : Int} {σ : Hp} {Q : AV → Hp → Prop} (q : ∀ x dx il, Q (.ref x) ((x, .inst 309 dx) :: (dx, .ns nmFr (frV kind lim (-1) (-1) 0 .none il)) :: σ)) : CallOk G 2 (.ref 309) [.str kind, .int lim] σ Q :=
  .make' nmFr I.g I.mkf.fr fun x dx => .weak (c_Frame_init I fun il => ⟨_, .cut (.refl _), rfl, q x dx il⟩)
noncomputable abbrev paV (sym ops tk fr nu na co : Addr) (mode : Str) (pl lim : Int) (term : AV) (pr : Int) : List (Option AV) := [some (.ref sym), some (.ref ops), some (.str mode), some (.ref tk), some (.int pl), some (.ref fr), some (.int lim), some term, some (.int pr), some (.ref nu), some (.ref na), some (.ref co), some (.int 0)]
theorem c_Parser_init {G : Gl} (I : IsG G) {p pn sym ops tk : Addr} {mode : Str} {R : Hp} {Q : AV → Hp → Prop} (q : ∀ fr nu na co, Q .none ((pn, .ns nmPa (paV sym ops tk fr nu na co mode 0 1200 .none 0)) :: (fr, .list []) :: (p, .inst 517 pn) :: R)) : CallOk G 2 (.ref 348) [.ref p, .ref sym, .ref ops, .str mode, .ref tk] ((p, .inst 517 pn) :: (pn, .ns nmPa []) :: R) Q := by
  refine CallOk.go'' (n := 1) (ps := ["self", "symbols", "operators", "mode", "tokens"]) (ls' := []) (gs := ["CLAUSE_PRIORITY"]) (FnIn.lit (by rw [I.k]; walk_at "FN") (by conv => lhs; whnf)) I.g rfl ?_
  rintro X rfl hn ⟨l0, l1, l2, l3, l4, -⟩ ⟨g0, -⟩
  have q_CLAUSE_PRIORITY := I.fs.gl.i_CLAUSE_PRIORITY
  have aOp_symbols := I.fs.op.a_symbols
  have stOp := I.fs.op.st
  have aFr_limit := I.fs.fr.a_limit
  have aFr_priority := I.fs.fr.a_priority
  have stFr := I.fs.fr.st
  have aPa_symbols := I.fs.pa.a_symbols
  have aPa_operators := I.fs.pa.a_operators
  have aPa_mode := I.fs.pa.a_mode
  have aPa_tokens := I.fs.pa.a_tokens
  have aPa_place := I.fs.pa.a_place
  have aPa_frames := I.fs.pa.a_frames
  have aPa_limit := I.fs.pa.a_limit
  have aPa_term := I.fs.pa.a_term
  have aPa_priority := I.fs.pa.a_priority
  have aPa_numbers := I.fs.pa.a_numbers
  have aPa_names := I.fs.pa.a_names
  have aPa_counts := I.fs.pa.a_counts
  have aPa_next_number := I.fs.pa.a_next_number
  have stPa := I.fs.pa.st
  dsimp only [padL, List.map, List.cons_append, List.nil_append, List.length_cons, List.length_nil, List.replicate, Nat.zero_add]
  refine Xs.weak ?_
  walk_at "W"
  intro fr _
  walk_at "W"
  refine Ev.dictS fun nu => ?_
  walk_at "W"
  intro na _
  walk_at "W"
  refine Ev.dictI fun co => ?_
  walk_at "W"
  refine ⟨_, ?_, q fr nu na co⟩
  refine .cut (.cut (.cut (.perm ?_)))
  refine (List.Perm.cons _ (.swap ..)).trans (.swap ..)
theorem mk_Parser {G : Gl} (I : IsG G) {sym ops tk : Addr} {mode : Str} {σ : Hp} {Q : AV → Hp → Prop} (q : ∀ p pn fr nu na co, Q (.ref p) ((pn, .ns nmPa (paV sym ops tk fr nu na co mode 0 1200 .none 0)) :: (fr, .list []) :: (p, .inst 517 pn) :: σ)) : CallOk G 3 (.ref 517) [.ref sym, .ref ops, .str mode, .ref tk] σ Q :=
  .make' nmPa I.g I.mkf.pa fun x dx => c_Parser_init I fun fr nu na co => ⟨rfl, q x dx fr nu na co⟩
theorem c_is_punct_no {G : Gl} (I : IsG G) {k : Str} {l : List AV} {t : Str} {σ : Hp} {Q : AV → Hp → Prop} (hk : (k == "punct") = false) (q : Q (.bool false) σ) : CallOk G 1 (.ref 334) [.tup (.str k :: l), .str t] σ Q := by
  refine CallOk.go'' (n := 0) (ps := ["token", "text"]) (ls' := []) (gs := []) (FnIn.lit (by rw [I.k]; walk_at "FN") (by conv => lhs; whnf)) I.g rfl ?_
  rintro X rfl hn ⟨l0, l1, -⟩ -
  dsimp only [padL, List.map, List.cons_append, List.nil_append, List.length_cons, List.length_nil, List.replicate, Nat.zero_add]
  walk_at "W"
  try refine Ev.and ?_
  walk_at "W"
  refine andV_f hk ?_
  walk_at "W"
  exact q
open PySem PySem.W PySem.Calls PyProof.Rows PySem.SeqAt
theorem c_peek {G : Gl} (I : IsG G) {p pn sym ops tk fr nu na co : Addr} {pl lim pr : Int} {term : AV} {FO S : Hp} {Q : AV → Hp → Prop} (hp : (p, .inst 517 pn) ∈ S) {T : List AV} {tok : AV} (htk : (tk, .list T) ∈ S) (h0 : 0 ≤ pl) (h1 : pl < 1000) (ht : T[pl.toNat]? = some tok) (q : Q tok (FO ++ (pn, .ns nmPa (paV sym ops tk fr nu na co "codes" pl lim term pr)) :: S)) : CallOk G 2 (.ref 369) [.ref p] (FO ++ (pn, .ns nmPa (paV sym ops tk fr nu na co "codes" pl lim term pr)) :: S) Q := by
  refine CallOk.go'' (n := 1) (ps := ["self"]) (ls' := []) (gs := []) (FnIn.lit (by rw [I.k]; walk_at "FN") (by conv => lhs; whnf)) I.g rfl ?_
  rintro X rfl hn ⟨l0, -⟩ -
  have aPa_tokens := I.fs.pa.a_tokens
  have aPa_place := I.fs.pa.a_place
  dsimp only [padL, List.map, List.cons_append, List.nil_append, List.length_cons, List.length_nil, List.replicate, Nat.zero_add]
  walk_at "W"
  refine Op2.itList rfl (by walk_at "M") h0 (by omega) ht ?_
  walk_at "W"
  exact q
theorem c_take {G : Gl} (I : IsG G) {p pn sym ops tk fr nu na co : Addr} {pl lim pr : Int} {term : AV} {FO S : Hp} {Q : AV → Hp → Prop} (hp : (p, .inst 517 pn) ∈ S) {T : List AV} {tok : AV} (htk : (tk, .list T) ∈ S) (h0 : 0 ≤ pl) (h1 : pl < 1000) (ht : T[pl.toNat]? = some tok) (q : Q tok (FO ++ (pn, .ns nmPa (paV sym ops tk fr nu na co "codes" (pl + 1) lim term pr)) :: S)) : CallOk G 2 (.ref 376) [.ref p] (FO ++ (pn, .ns nmPa (paV sym ops tk fr nu na co "codes" pl lim term pr)) :: S) Q := by
  refine CallOk.go'' (n := 1) (ps := ["self"]) (ls' := ["token"]) (gs := []) (FnIn.lit (by rw [I.k]; walk_at "FN") (by conv => lhs; whnf)) I.g rfl ?_
  rintro X rfl hn ⟨l0, l1, -⟩ -
  have aPa_tokens := I.fs.pa.a_tokens
  have aPa_place := I.fs.pa.a_place
  have stPa := I.fs.pa.st
  dsimp only [padL, List.map, List.cons_append, List.nil_append, List.length_cons, List.length_nil, List.replicate, Nat.zero_add]
  walk_at "W"
  refine Op2.itList rfl (by walk_at "M") h0 (by omega) ht ?_
  walk_at "W"
  exact q
theorem c_settle {G : Gl} (I : IsG G) {term' : AV} {pr' : Int} {p pn sym ops tk fr nu na co : Addr} {pl lim pr : Int} {term : AV} {FO S : Hp} {Q : AV → Hp → Prop} (hp : (p, .inst 517 pn) ∈ S) (q : Q (.int 1) (FO ++ (pn, .ns nmPa (paV sym ops tk fr nu na co "codes" pl lim term' pr')) :: S)) : CallOk G 2 (.ref 404) [.ref p, term', .int pr'] (FO ++ (pn, .ns nmPa (paV sym ops tk fr nu na co "codes" pl lim term pr)) :: S) Q := by
  refine CallOk.go'' (n := 1) (ps := ["self", "term", "priority"]) (ls' := []) (gs := ["WANT_OPERATOR"]) (FnIn.lit (by rw [I.k]; walk_at "FN") (by conv => lhs; whnf)) I.g rfl ?_
  rintro X rfl hn ⟨l0, l1, l2, -⟩ ⟨g0, -⟩
  have q_WANT_OPERATOR := I.fs.gl.i_WANT_OPERATOR
  have aFr_priority := I.fs.fr.a_priority
  have stFr := I.fs.fr.st
  have aPa_term := I.fs.pa.a_term
  have aPa_priority := I.fs.pa.a_priority
  have stPa := I.fs.pa.st
  dsimp only [padL, List.map, List.cons_append, List.nil_append, List.length_cons, List.length_nil, List.replicate, Nat.zero_add]
  walk_at "W"
  exact q
theorem c_operand_int {G : Gl} (I : IsG G) {k pos : Int} {p pn sym ops tk fr nu na co : Addr} {pl lim pr : Int} {term : AV} {FO S : Hp} {Q : AV → Hp → Prop} (hp : (p, .inst 517 pn) ∈ S) {T : List AV} (htk : (tk, .list T) ∈ S) (h0 : 0 ≤ pl) (h1 : pl < 1000) (ht : T[pl.toNat]? = some (.tup [.str "int", .int k, .int pos])) (q : Q (.int 1) (FO ++ (pn, .ns nmPa (paV sym ops tk fr nu na co "codes" (pl + 1) lim (.tup [.str "i", .int k]) 0)) :: S)) : CallOk G 4 (.ref 418) [.ref p] (FO ++ (pn, .ns nmPa (paV sym ops tk fr nu na co "codes" pl lim term pr)) :: S) Q := by
  refine CallOk.go'' (n := 3) (ps := ["self"]) (ls' := ["token", "kind"]) (gs := ["integer", "CLAUSE_PRIORITY", "is_punct", "A_NIL", "ARGUMENT_PRIORITY", "A_CURLY"]) (FnIn.lit (by rw [I.k]; walk_at "FN") (by conv => lhs; whnf)) I.g rfl ?_
  rintro X rfl hn ⟨l0, l1, l2, -⟩ ⟨g0, g1, g2, g3, g4, g5, -⟩
  have q_integer := I.fs.gl.f_integer
  have q_CLAUSE_PRIORITY := I.fs.gl.i_CLAUSE_PRIORITY
  have q_is_punct := I.fs.gl.f_is_punct
  have q_A_NIL := I.fs.gl.i_A_NIL
  have q_ARGUMENT_PRIORITY := I.fs.gl.i_ARGUMENT_PRIORITY
  have q_A_CURLY := I.fs.gl.i_A_CURLY
  have mSy_atom := I.fs.sy.m_atom
  have aOp_symbols := I.fs.op.a_symbols
  have aPa_symbols := I.fs.pa.a_symbols
  have mPa_peek := I.fs.pa.m_peek
  have mPa_take := I.fs.pa.m_take
  have mPa_fault := I.fs.pa.m_fault
  have mPa_settle := I.fs.pa.m_settle
  have mPa_named := I.fs.pa.m_named
  dsimp only [padL, List.map, List.cons_append, List.nil_append, List.length_cons, List.length_nil, List.replicate, Nat.zero_add]
  walk_at "W"
  refine Cl.fn' (c_take I hp htk h0 h1 ht ?_) (le_n hn (by decide))
  walk_at "W"
  refine ifX_t rfl ?_
  walk_at "W"
  refine Cl.fn' (c_integer I ?_) (le_n hn (by decide))
  walk_at "W"
  refine Cl.fn' (c_settle I hp ?_) (le_n hn (by decide))
  walk_at "W"
  exact q
theorem c_opname_end {G : Gl} (I : IsG G) {l : List AV} {p pn sym ops tk fr nu na co : Addr} {pl lim pr : Int} {term : AV} {FO S : Hp} {Q : AV → Hp → Prop} (hp : (p, .inst 517 pn) ∈ S) (q : Q (.int (-1)) (FO ++ (pn, .ns nmPa (paV sym ops tk fr nu na co "codes" pl lim term pr)) :: S)) : CallOk G 4 (.ref 458) [.ref p, .tup (.str "end" :: l)] (FO ++ (pn, .ns nmPa (paV sym ops tk fr nu na co "codes" pl lim term pr)) :: S) Q := by
  refine CallOk.go'' (n := 3) (ps := ["self", "token"]) (ls' := []) (gs := ["is_punct", "A_COMMA", "A_BAR"]) (FnIn.lit (by rw [I.k]; walk_at "FN") (by conv => lhs; whnf)) I.g rfl ?_
  rintro X rfl hn ⟨l0, l1, -⟩ ⟨g0, g1, g2, -⟩
  have q_is_punct := I.fs.gl.f_is_punct
  have q_A_COMMA := I.fs.gl.i_A_COMMA
  have q_A_BAR := I.fs.gl.i_A_BAR
  have mSy_atom := I.fs.sy.m_atom
  have aOp_symbols := I.fs.op.a_symbols
  have aPa_symbols := I.fs.pa.a_symbols
  dsimp only [padL, List.map, List.cons_append, List.nil_append, List.length_cons, List.length_nil, List.replicate, Nat.zero_add]
  walk_at "W"
  refine orX_f (by decide +kernel) ?_
  walk_at "W"
  refine orX_f (by decide +kernel) ?_
  walk_at "W"
  refine ifX_f rfl ?_
  walk_at "W"
  refine Cl.fn' (c_is_punct_no I (by decide +kernel) ?_) (le_n hn (by decide))
  walk_at "W"
  refine ifX_f rfl ?_
  walk_at "W"
  refine Cl.fn' (c_is_punct_no I (by decide +kernel) ?_) (le_n hn (by decide))
  walk_at "W"
  refine ifX_f rfl ?_
  walk_at "W"
  exact q
theorem c_opname {G : Gl} (I : IsG G) {t : Str} {a : Int} {l : List AV} {p pn sym ops tk fr nu na co : Addr} {pl lim pr : Int} {term : AV} {FO S : Hp} {Q : AV → Hp → Prop} (hp : (p, .inst 517 pn) ∈ S) {dx tl an fl fn : Addr} {kvs : List (Str × AV)} (hx : (sym, .inst 154 dx) ∈ S) (hd : (dx, .ns nmSy [some (.ref tl), some (.ref an), some (.ref fl), some (.ref fn)]) ∈ S) (ha : (an, .dS kvs) ∈ S) (hk : aget kvs t = some (.int a)) (ha0 : 0 ≤ a) (q : Q (.int a) (FO ++ (pn, .ns nmPa (paV sym ops tk fr nu na co "codes" pl lim term pr)) :: S)) : CallOk G 4 (.ref 458) [.ref p, .tup (.str "name" :: .str t :: l)] (FO ++ (pn, .ns nmPa (paV sym ops tk fr nu na co "codes" pl lim term pr)) :: S) Q := by
  refine CallOk.go'' (n := 3) (ps := ["self", "token"]) (ls' := []) (gs := ["is_punct", "A_COMMA", "A_BAR"]) (FnIn.lit (by rw [I.k]; walk_at "FN") (by conv => lhs; whnf)) I.g rfl ?_
  rintro X rfl hn ⟨l0, l1, -⟩ ⟨g0, g1, g2, -⟩
  have q_is_punct := I.fs.gl.f_is_punct
  have q_A_COMMA := I.fs.gl.i_A_COMMA
  have q_A_BAR := I.fs.gl.i_A_BAR
  have mSy_atom := I.fs.sy.m_atom
  have aOp_symbols := I.fs.op.a_symbols
  have aPa_symbols := I.fs.pa.a_symbols
  dsimp only [padL, List.map, List.cons_append, List.nil_append, List.length_cons, List.length_nil, List.replicate, Nat.zero_add]
  walk_at "W"
  refine orX_t rfl ?_
  walk_at "W"
  refine ifX_t rfl ?_
  walk_at "W"
  refine Cl.fn' (sy_atom I (by walk_at "M") (by walk_at "M") (by walk_at "M") hk ha0 ?_) (le_n hn (by decide))
  walk_at "W"
  exact q
noncomputable def adm (e : AV) (lim pr : Int) : Bool := match e with
  | .tup [.int l, .str f] => decide (l ≤ lim) && decide (pr ≤ (bnd l f).1)
  | _ => false
noncomputable def isEnt (e : AV) : Prop := e = .none ∨ ∃ l f, e = .tup [.int l, .str f]
theorem c_admits {G : Gl} (I : IsG G) {e : AV} (he : isEnt e) {p pn sym ops tk fr nu na co : Addr} {pl lim pr : Int} {term : AV} {FO S : Hp} {Q : AV → Hp → Prop} (hp : (p, .inst 517 pn) ∈ S) (q : Q (.bool (adm e lim pr)) (FO ++ (pn, .ns nmPa (paV sym ops tk fr nu na co "codes" pl lim term pr)) :: S)) : CallOk G 3 (.ref 472) [.ref p, e] (FO ++ (pn, .ns nmPa (paV sym ops tk fr nu na co "codes" pl lim term pr)) :: S) Q := by
  refine CallOk.go'' (n := 2) (ps := ["self", "entry"]) (ls' := []) (gs := ["bounds"]) (FnIn.lit (by rw [I.k]; walk_at "FN") (by conv => lhs; whnf)) I.g rfl ?_
  rintro X rfl hn ⟨l0, l1, -⟩ ⟨g0, -⟩
  have q_bounds := I.fs.gl.f_bounds
  have aFr_limit := I.fs.fr.a_limit
  have aFr_priority := I.fs.fr.a_priority
  have aPa_limit := I.fs.pa.a_limit
  have aPa_priority := I.fs.pa.a_priority
  dsimp only [padL, List.map, List.cons_append, List.nil_append, List.length_cons, List.length_nil, List.replicate, Nat.zero_add]
  rcases he with rfl | ⟨l, f, rfl⟩
  · walk_at "W"
    refine orX_t rfl ?_
    walk_at "W"
    refine ifX_t rfl ?_
    walk_at "W"
    exact q
  · walk_at "W"
    refine orX_f rfl ?_
    walk_at "W"
    by_cases hl : l ≤ lim
    · refine orX_f (by simpa using hl) ?_
      walk_at "W"
      refine ifX_f rfl ?_
      walk_at "W"
      refine Cl.fn' (c_bounds I ?_) (le_n hn (by decide))
      walk_at "W"
      rw [show adm (.tup [.int l, .str f]) lim pr = (decide (l ≤ lim) && decide (pr ≤ (bnd l f).1)) from rfl, decide_eq_true hl, Bool.true_and] at q
      exact q
    · refine orX_t (by simpa using hl) ?_
      walk_at "W"
      refine ifX_t rfl ?_
      walk_at "W"
      rw [show adm (.tup [.int l, .str f]) lim pr = (decide (l ≤ lim) && decide (pr ≤ (bnd l f).1)) from rfl, decide_eq_false hl, Bool.false_and] at q
      exact q
open PySem PySem.W PySem.Calls PyProof.Rows PySem.SeqAt
theorem c_shift_no {G : Gl} (I : IsG G) {a : Int} {e : AV} {kt : List (Int × AV)} {p pn sym ops tk fr nu na co : Addr} {pl lim pr : Int} {term : AV} {FO S : Hp} {Q : AV → Hp → Prop} (hp : (p, .inst 517 pn) ∈ S) {od pt it st : Addr} (ho : (ops, .inst 286 od) ∈ S) (hod : (od, .ns nmOp [some (.ref sym), some (.ref pt), some (.ref it), some (.ref st)]) ∈ S) (hit : (it, .dI kt) ∈ S) (he : (aget kt a).getD .none = e) (hi : isEnt e) (hb : adm e lim pr = false) (q : Q (.bool false) (FO ++ (pn, .ns nmPa (paV sym ops tk fr nu na co "codes" pl lim term pr)) :: S)) : CallOk G 5 (.ref 479) [.ref p, .int a] (FO ++ (pn, .ns nmPa (paV sym ops tk fr nu na co "codes" pl lim term pr)) :: S) Q := by
  refine CallOk.go'' (n := 4) (ps := ["self", "a"]) (ls' := ["entry", "frame"]) (gs := ["Frame", "bounds"]) (FnIn.lit (by rw [I.k]; walk_at "FN") (by conv => lhs; whnf)) I.g rfl ?_
  rintro X rfl hn ⟨l0, l1, l2, l3, -⟩ ⟨g0, g1, -⟩
  have q_Frame := I.fs.gl.f_Frame
  have q_bounds := I.fs.gl.f_bounds
  have mSy_functor := I.fs.sy.m_functor
  have aOp_symbols := I.fs.op.a_symbols
  have mOp_infix := I.fs.op.m_infix
  have stOp := I.fs.op.st
  have aFr_limit := I.fs.fr.a_limit
  have aFr_functor := I.fs.fr.a_functor
  have aFr_priority := I.fs.fr.a_priority
  have aFr_left := I.fs.fr.a_left
  have stFr := I.fs.fr.st
  have aPa_symbols := I.fs.pa.a_symbols
  have aPa_operators := I.fs.pa.a_operators
  have aPa_frames := I.fs.pa.a_frames
  have aPa_limit := I.fs.pa.a_limit
  have aPa_term := I.fs.pa.a_term
  have aPa_priority := I.fs.pa.a_priority
  have mPa_take := I.fs.pa.m_take
  have mPa_admits := I.fs.pa.m_admits
  have stPa := I.fs.pa.st
  dsimp only [padL, List.map, List.cons_append, List.nil_append, List.length_cons, List.length_nil, List.replicate, Nat.zero_add]
  walk_at "W"
  refine Cl.fn' (c_op_infix I (by walk_at "M") (by walk_at "M") (by walk_at "M") ?_) (le_n hn (by decide))
  rw [he]
  walk_at "W"
  refine Cl.fn' (c_admits I hi hp ?_) (le_n hn (by decide))
  rw [hb]
  walk_at "W"
  refine ifX_t rfl ?_
  walk_at "W"
  exact q
theorem c_post_no {G : Gl} (I : IsG G) {a : Int} {e : AV} {kt : List (Int × AV)} {p pn sym ops tk fr nu na co : Addr} {pl lim pr : Int} {term : AV} {FO S : Hp} {Q : AV → Hp → Prop} (hp : (p, .inst 517 pn) ∈ S) {od pt it st : Addr} (ho : (ops, .inst 286 od) ∈ S) (hod : (od, .ns nmOp [some (.ref sym), some (.ref pt), some (.ref it), some (.ref st)]) ∈ S) (hst : (st, .dI kt) ∈ S) (he : (aget kt a).getD .none = e) (hi : isEnt e) (hb : adm e lim pr = false) (q : Q (.bool false) (FO ++ (pn, .ns nmPa (paV sym ops tk fr nu na co "codes" pl lim term pr)) :: S)) : CallOk G 5 (.ref 486) [.ref p, .int a] (FO ++ (pn, .ns nmPa (paV sym ops tk fr nu na co "codes" pl lim term pr)) :: S) Q := by
  refine CallOk.go'' (n := 4) (ps := ["self", "a"]) (ls' := ["entry"]) (gs := ["struct"]) (FnIn.lit (by rw [I.k]; walk_at "FN") (by conv => lhs; whnf)) I.g rfl ?_
  rintro X rfl hn ⟨l0, l1, l2, -⟩ ⟨g0, -⟩
  have q_struct := I.fs.gl.f_struct
  have mSy_functor := I.fs.sy.m_functor
  have aOp_symbols := I.fs.op.a_symbols
  have mOp_postfix := I.fs.op.m_postfix
  have aFr_functor := I.fs.fr.a_functor
  have aPa_symbols := I.fs.pa.a_symbols
  have aPa_operators := I.fs.pa.a_operators
  have aPa_term := I.fs.pa.a_term
  have mPa_take := I.fs.pa.m_take
  have mPa_settle := I.fs.pa.m_settle
  have mPa_admits := I.fs.pa.m_admits
  dsimp only [padL, List.map, List.cons_append, List.nil_append, List.length_cons, List.length_nil, List.replicate, Nat.zero_add]
  walk_at "W"
  refine Cl.fn' (c_op_postfix I (by walk_at "M") (by walk_at "M") (by walk_at "M") ?_) (le_n hn (by decide))
  rw [he]
  walk_at "W"
  refine Cl.fn' (c_admits I hi hp ?_) (le_n hn (by decide))
  rw [hb]
  walk_at "W"
  refine ifX_t rfl ?_
  walk_at "W"
  exact q
theorem c_post_yes {G : Gl} (I : IsG G) {a lv k : Int} {fx : Str} {kt : List (Int × AV)} {p pn sym ops tk fr nu na co : Addr} {pl lim pr : Int} {term : AV} {FO S : Hp} {Q : AV → Hp → Prop} (hkn : term.known = true) (hp : (p, .inst 517 pn) ∈ S) {T : List AV} {tok : AV} (htk : (tk, .list T) ∈ S) (h0 : 0 ≤ pl) (h1 : pl < 1000) (ht : T[pl.toNat]? = some tok) {od pt it st : Addr} (ho : (ops, .inst 286 od) ∈ S) (hod : (od, .ns nmOp [some (.ref sym), some (.ref pt), some (.ref it), some (.ref st)]) ∈ S) {dx tl an fl fn : Addr} {fkv : List (List Int × AV)} (hx : (sym, .inst 154 dx) ∈ S) (hd : (dx, .ns nmSy [some (.ref tl), some (.ref an), some (.ref fl), some (.ref fn)]) ∈ S) (hfn : (fn, .dT fkv) ∈ S) (hst : (st, .dI kt) ∈ S) (he : (aget kt a).getD .none = .tup [.int lv, .str fx]) (hb : adm (.tup [.int lv, .str fx]) lim pr = true) (hf : aget fkv [a, 1] = some (.int k)) (hk0 : 0 ≤ k) (q : Q (.bool true) (FO ++ (pn, .ns nmPa (paV sym ops tk fr nu na co "codes" (pl + 1) lim (.tup [.str "s", .int k, .tup [term]]) lv)) :: S)) : CallOk G 5 (.ref 486) [.ref p, .int a] (FO ++ (pn, .ns nmPa (paV sym ops tk fr nu na co "codes" pl lim term pr)) :: S) Q := by
  refine CallOk.go'' (n := 4) (ps := ["self", "a"]) (ls' := ["entry"]) (gs := ["struct"]) (FnIn.lit (by rw [I.k]; walk_at "FN") (by conv => lhs; whnf)) I.g rfl ?_
  rintro X rfl hn ⟨l0, l1, l2, -⟩ ⟨g0, -⟩
  have q_struct := I.fs.gl.f_struct
  have mSy_functor := I.fs.sy.m_functor
  have aOp_symbols := I.fs.op.a_symbols
  have mOp_postfix := I.fs.op.m_postfix
  have aFr_functor := I.fs.fr.a_functor
  have aPa_symbols := I.fs.pa.a_symbols
  have aPa_operators := I.fs.pa.a_operators
  have aPa_term := I.fs.pa.a_term
  have mPa_take := I.fs.pa.m_take
  have mPa_settle := I.fs.pa.m_settle
  have mPa_admits := I.fs.pa.m_admits
  dsimp only [padL, List.map, List.cons_append, List.nil_append, List.length_cons, List.length_nil, List.replicate, Nat.zero_add]
  walk_at "W"
  refine Cl.fn' (c_op_postfix I (by walk_at "M") (by walk_at "M") (by walk_at "M") ?_) (le_n hn (by decide))
  rw [he]
  walk_at "W"
  refine Cl.fn' (c_admits I (.inr ⟨lv, fx, rfl⟩) hp ?_) (le_n hn (by decide))
  rw [hb]
  walk_at "W"
  refine ifX_f rfl ?_
  walk_at "W"
  refine Cl.fn' (c_take I hp htk h0 h1 ht ?_) (le_n hn (by decide))
  walk_at "W"
  refine Cl.fn' (c_functor I (by walk_at "M") (by walk_at "M") (by walk_at "M") hf hk0 ?_) (le_n hn (by decide))
  walk_at "W"
  refine Cl.fn' (c_struct I ?_) (le_n hn (by decide))
  walk_at "W"
  refine Cl.fn' (c_settle I hp ?_) (le_n hn (by decide))
  walk_at "W"
  exact q
noncomputable def redT (left : AV) (k : Int) (term : AV) : AV := if left.isNone then .tup [.str "s", .int k, .tup [term]] else .tup [.str "s", .int k, .tup [left, term]]
theorem c_reduce {G : Gl} (I : IsG G) {x dx' il : Addr} {fl k fp : Int} {left : AV} {fl0 : List AV} {p pn sym ops tk fr nu na co : Addr} {pl lim pr : Int} {term : AV} {FO S : Hp} {Q : AV → Hp → Prop} (hp : (p, .inst 517 pn) ∈ S) (hz : fl0.length ≤ 1000) (hkn : term.known = true) (hln : left.known = true) (q : Q .none (FO ++ (pn, .ns nmPa (paV sym ops tk fr nu na co "codes" pl fl (redT left k term) fp)) :: (fr, .list fl0) :: S)) : CallOk G 4 (.ref 493) [.ref p] (((x, .inst 309 dx') :: (dx', .ns nmFr (frV "operator" fl k (-1) fp left il)) :: (FO ++ (pn, .ns nmPa (paV sym ops tk fr nu na co "codes" pl lim term pr)) :: (fr, .list (fl0 ++ [.ref x])) :: S))) Q := by
  refine CallOk.go'' (n := 3) (ps := ["self"]) (ls' := ["frame"]) (gs := ["struct"]) (FnIn.lit (by rw [I.k]; walk_at "FN") (by conv => lhs; whnf)) I.g rfl ?_
  rintro X rfl hn ⟨l0, l1, -⟩ ⟨g0, -⟩
  have q_struct := I.fs.gl.f_struct
  have mSy_functor := I.fs.sy.m_functor
  have aFr_limit := I.fs.fr.a_limit
  have aFr_functor := I.fs.fr.a_functor
  have aFr_priority := I.fs.fr.a_priority
  have aFr_left := I.fs.fr.a_left
  have stFr := I.fs.fr.st
  have aPa_frames := I.fs.pa.a_frames
  have aPa_limit := I.fs.pa.a_limit
  have aPa_term := I.fs.pa.a_term
  have aPa_priority := I.fs.pa.a_priority
  have mPa_settle := I.fs.pa.m_settle
  have stPa := I.fs.pa.st
  dsimp only [padL, List.map, List.cons_append, List.nil_append, List.length_cons, List.length_nil, List.replicate, Nat.zero_add]
  refine Xs.weak ?_
  walk_at "W"
  unfold redT at q
  refine ifX_c (fun h => ?_) (fun h => ?_)
  · rw [if_pos h] at q
    walk_at "W"
    refine Cl.fn' (c_struct I ?_) (le_n hn (by decide))
    walk_at "W"
    refine Cl.fn' (c_settle I (FO := (x, .inst 309 dx') :: (dx', .ns nmFr (frV "operator" fl k (-1) fp left il)) :: FO) (by walk_at "M") ?_) (le_n hn (by decide))
    walk_at "W"
    exact ⟨_, .cut (.cut (.refl _)), q⟩
  · rw [if_neg (by rw [h]; decide)] at q
    walk_at "W"
    refine Cl.fn' (c_struct I ?_) (le_n hn (by decide))
    walk_at "W"
    refine Cl.fn' (c_settle I (FO := (x, .inst 309 dx') :: (dx', .ns nmFr (frV "operator" fl k (-1) fp left il)) :: FO) (by walk_at "M") ?_) (le_n hn (by decide))
    walk_at "W"
    exact ⟨_, .cut (.cut (.refl _)), q⟩
open PySem PySem.W PySem.Calls PyProof.Rows PySem.SeqAt
theorem c_op_post {G : Gl} (I : IsG G) {fl0 : List AV} {ki ks : List (Int × AV)} {avs : List (Str × AV)} {p pn sym ops tk fr nu na co : Addr} {pl lim pr : Int} {term : AV} {FO S : Hp} {Q : AV → Hp → Prop} (hp : (p, .inst 517 pn) ∈ S) {T : List AV} {tok : AV} (htk : (tk, .list T) ∈ S) (h0 : 0 ≤ pl) (h1 : pl < 1000) (ht : T[pl.toNat]? = some tok) {od pt it st : Addr} (ho : (ops, .inst 286 od) ∈ S) (hod : (od, .ns nmOp [some (.ref sym), some (.ref pt), some (.ref it), some (.ref st)]) ∈ S) {dx tl an fl fn : Addr} {fkv : List (List Int × AV)} (hx : (sym, .inst 154 dx) ∈ S) (hd : (dx, .ns nmSy [some (.ref tl), some (.ref an), some (.ref fl), some (.ref fn)]) ∈ S) (hfn : (fn, .dT fkv) ∈ S) (hit : (it, .dI ki) ∈ S) (hst : (st, .dI ks) ∈ S) (ha : (an, .dS avs) ∈ S) {t : Str} {a : Int} {l : List AV} {e1 e2 : AV} (htok : tok = .tup (.str "name" :: .str t :: l)) (hk : aget avs t = some (.int a)) (ha0 : 0 ≤ a) (he1 : (aget ki a).getD .none = e1) (hi1 : isEnt e1) (he2 : (aget ks a).getD .none = e2) (hi2 : isEnt e2) {lv k : Int} {fx : Str} (hb1 : adm e1 lim pr = false) (hE : e2 = .tup [.int lv, .str fx]) (hkn : term.known = true) (hb : adm (.tup [.int lv, .str fx]) lim pr = true) (hf : aget fkv [a, 1] = some (.int k)) (hk0 : 0 ≤ k) (q : Q (.int 1) (FO ++ (pn, .ns nmPa (paV sym ops tk fr nu na co "codes" (pl + 1) lim (.tup [.str "s", .int k, .tup [term]]) lv)) :: (fr, .list fl0) :: S)) : CallOk G 7 (.ref 465) [.ref p] (FO ++ (pn, .ns nmPa (paV sym ops tk fr nu na co "codes" pl lim term pr)) :: (fr, .list fl0) :: S) Q := by
  refine CallOk.go'' (n := 6) (ps := ["self"]) (ls' := ["token", "a"]) (gs := ["WANT_OPERAND", "WANT_OPERATOR", "DONE"]) (FnIn.lit (by rw [I.k]; walk_at "FN") (by conv => lhs; whnf)) I.g rfl ?_
  rintro X rfl hn ⟨l0, l1, l2, -⟩ ⟨g0, g1, g2, -⟩
  have q_WANT_OPERAND := I.fs.gl.i_WANT_OPERAND
  have q_WANT_OPERATOR := I.fs.gl.i_WANT_OPERATOR
  have q_DONE := I.fs.gl.i_DONE
  have aFr_kind := I.fs.fr.a_kind
  have aPa_frames := I.fs.pa.a_frames
  have mPa_peek := I.fs.pa.m_peek
  have mPa_operator_name := I.fs.pa.m_operator_name
  have mPa_shift_infix := I.fs.pa.m_shift_infix
  have mPa_apply_postfix := I.fs.pa.m_apply_postfix
  have mPa_reduce := I.fs.pa.m_reduce
  dsimp only [padL, List.map, List.cons_append, List.nil_append, List.length_cons, List.length_nil, List.replicate, Nat.zero_add]
  subst htok
  walk_at "W"
  refine Cl.fn' (c_peek I (by walk_at "M") (by walk_at "M") h0 h1 ht ?_) (le_n hn (by decide))
  walk_at "W"
  refine Cl.fn' (c_opname I (by walk_at "M") (by walk_at "M") (by walk_at "M") (by walk_at "M") hk ha0 ?_) (le_n hn (by decide))
  walk_at "W"
  refine andX_t (by simpa using ha0) ?_
  walk_at "W"
  refine Cl.fn' (c_shift_no I (by walk_at "M") (by walk_at "M") (by walk_at "M") (by walk_at "M") he1 hi1 hb1 ?_) (le_n hn (by decide))
  walk_at "W"
  refine andX_f rfl ?_
  refine ifX_f rfl ?_
  walk_at "W"
  refine andX_t (by simpa using ha0) ?_
  walk_at "W"
  subst hE
  refine Cl.fn' (c_post_yes I hkn (by walk_at "M") (by walk_at "M") h0 h1 ht (by walk_at "M") (by walk_at "M") (by walk_at "M") (by walk_at "M") (by walk_at "M") (by walk_at "M") he2 hb hf hk0 ?_) (le_n hn (by decide))
  walk_at "W"
  refine andX_t rfl ?_
  walk_at "W"
  refine ifX_t rfl ?_
  walk_at "W"
  exact q
theorem c_op_done_n {G : Gl} (I : IsG G) {ki ks : List (Int × AV)} {avs : List (Str × AV)} {p pn sym ops tk fr nu na co : Addr} {pl lim pr : Int} {term : AV} {FO S : Hp} {Q : AV → Hp → Prop} (hp : (p, .inst 517 pn) ∈ S) {T : List AV} {tok : AV} (htk : (tk, .list T) ∈ S) (h0 : 0 ≤ pl) (h1 : pl < 1000) (ht : T[pl.toNat]? = some tok) {od pt it st : Addr} (ho : (ops, .inst 286 od) ∈ S) (hod : (od, .ns nmOp [some (.ref sym), some (.ref pt), some (.ref it), some (.ref st)]) ∈ S) {dx tl an fl fn : Addr} {fkv : List (List Int × AV)} (hx : (sym, .inst 154 dx) ∈ S) (hd : (dx, .ns nmSy [some (.ref tl), some (.ref an), some (.ref fl), some (.ref fn)]) ∈ S) (hfn : (fn, .dT fkv) ∈ S) (hit : (it, .dI ki) ∈ S) (hst : (st, .dI ks) ∈ S) (ha : (an, .dS avs) ∈ S) {t : Str} {a : Int} {l : List AV} {e1 e2 : AV} (htok : tok = .tup (.str "name" :: .str t :: l)) (hk : aget avs t = some (.int a)) (ha0 : 0 ≤ a) (he1 : (aget ki a).getD .none = e1) (hi1 : isEnt e1) (he2 : (aget ks a).getD .none = e2) (hi2 : isEnt e2) (hb1 : adm e1 lim pr = false) (hb2 : adm e2 lim pr = false) (q : Q (.int 2) (FO ++ (pn, .ns nmPa (paV sym ops tk fr nu na co "codes" pl lim term pr)) :: (fr, .list []) :: S)) : CallOk G 7 (.ref 465) [.ref p] (FO ++ (pn, .ns nmPa (paV sym ops tk fr nu na co "codes" pl lim term pr)) :: (fr, .list []) :: S) Q := by
  refine CallOk.go'' (n := 6) (ps := ["self"]) (ls' := ["token", "a"]) (gs := ["WANT_OPERAND", "WANT_OPERATOR", "DONE"]) (FnIn.lit (by rw [I.k]; walk_at "FN") (by conv => lhs; whnf)) I.g rfl ?_
  rintro X rfl hn ⟨l0, l1, l2, -⟩ ⟨g0, g1, g2, -⟩
  have q_WANT_OPERAND := I.fs.gl.i_WANT_OPERAND
  have q_WANT_OPERATOR := I.fs.gl.i_WANT_OPERATOR
  have q_DONE := I.fs.gl.i_DONE
  have aFr_kind := I.fs.fr.a_kind
  have aPa_frames := I.fs.pa.a_frames
  have mPa_peek := I.fs.pa.m_peek
  have mPa_operator_name := I.fs.pa.m_operator_name
  have mPa_shift_infix := I.fs.pa.m_shift_infix
  have mPa_apply_postfix := I.fs.pa.m_apply_postfix
  have mPa_reduce := I.fs.pa.m_reduce
  dsimp only [padL, List.map, List.cons_append, List.nil_append, List.length_cons, List.length_nil, List.replicate, Nat.zero_add]
  subst htok
  walk_at "W"
  refine Cl.fn' (c_peek I (by walk_at "M") (by walk_at "M") h0 h1 ht ?_) (le_n hn (by decide))
  walk_at "W"
  refine Cl.fn' (c_opname I (by walk_at "M") (by walk_at "M") (by walk_at "M") (by walk_at "M") hk ha0 ?_) (le_n hn (by decide))
  walk_at "W"
  refine andX_t (by simpa using ha0) ?_
  walk_at "W"
  refine Cl.fn' (c_shift_no I (by walk_at "M") (by walk_at "M") (by walk_at "M") (by walk_at "M") he1 hi1 hb1 ?_) (le_n hn (by decide))
  walk_at "W"
  refine andX_f rfl ?_
  refine ifX_f rfl ?_
  walk_at "W"
  refine andX_t (by simpa using ha0) ?_
  walk_at "W"
  refine Cl.fn' (c_post_no I (by walk_at "M") (by walk_at "M") (by walk_at "M") (by walk_at "M") he2 hi2 hb2 ?_) (le_n hn (by decide))
  walk_at "W"
  refine andX_f rfl ?_
  refine ifX_f rfl ?_
  walk_at "W"
  refine TrAt.list (l := []) (by walk_at "M") (by decide) ?_
  refine ifX_t rfl ?_
  walk_at "W"
  exact q
theorem c_op_done_e {G : Gl} (I : IsG G) {ki ks : List (Int × AV)} {avs : List (Str × AV)} {p pn sym ops tk fr nu na co : Addr} {pl lim pr : Int} {term : AV} {FO S : Hp} {Q : AV → Hp → Prop} (hp : (p, .inst 517 pn) ∈ S) {T : List AV} {tok : AV} (htk : (tk, .list T) ∈ S) (h0 : 0 ≤ pl) (h1 : pl < 1000) (ht : T[pl.toNat]? = some tok) {od pt it st : Addr} (ho : (ops, .inst 286 od) ∈ S) (hod : (od, .ns nmOp [some (.ref sym), some (.ref pt), some (.ref it), some (.ref st)]) ∈ S) {dx tl an fl fn : Addr} {fkv : List (List Int × AV)} (hx : (sym, .inst 154 dx) ∈ S) (hd : (dx, .ns nmSy [some (.ref tl), some (.ref an), some (.ref fl), some (.ref fn)]) ∈ S) (hfn : (fn, .dT fkv) ∈ S) (hit : (it, .dI ki) ∈ S) (hst : (st, .dI ks) ∈ S) (ha : (an, .dS avs) ∈ S) {l : List AV} (htok : tok = .tup (.str "end" :: l)) (q : Q (.int 2) (FO ++ (pn, .ns nmPa (paV sym ops tk fr nu na co "codes" pl lim term pr)) :: (fr, .list []) :: S)) : CallOk G 7 (.ref 465) [.ref p] (FO ++ (pn, .ns nmPa (paV sym ops tk fr nu na co "codes" pl lim term pr)) :: (fr, .list []) :: S) Q := by
  refine CallOk.go'' (n := 6) (ps := ["self"]) (ls' := ["token", "a"]) (gs := ["WANT_OPERAND", "WANT_OPERATOR", "DONE"]) (FnIn.lit (by rw [I.k]; walk_at "FN") (by conv => lhs; whnf)) I.g rfl ?_
  rintro X rfl hn ⟨l0, l1, l2, -⟩ ⟨g0, g1, g2, -⟩
  have q_WANT_OPERAND := I.fs.gl.i_WANT_OPERAND
  have q_WANT_OPERATOR := I.fs.gl.i_WANT_OPERATOR
  have q_DONE := I.fs.gl.i_DONE
  have aFr_kind := I.fs.fr.a_kind
  have aPa_frames := I.fs.pa.a_frames
  have mPa_peek := I.fs.pa.m_peek
  have mPa_operator_name := I.fs.pa.m_operator_name
  have mPa_shift_infix := I.fs.pa.m_shift_infix
  have mPa_apply_postfix := I.fs.pa.m_apply_postfix
  have mPa_reduce := I.fs.pa.m_reduce
  dsimp only [padL, List.map, List.cons_append, List.nil_append, List.length_cons, List.length_nil, List.replicate, Nat.zero_add]
  subst htok
  walk_at "W"
  refine Cl.fn' (c_peek I (by walk_at "M") (by walk_at "M") h0 h1 ht ?_) (le_n hn (by decide))
  walk_at "W"
  refine Cl.fn' (c_opname_end I (by walk_at "M") ?_) (le_n hn (by decide))
  walk_at "W"
  refine andX_f (by decide) ?_
  refine ifX_f rfl ?_
  walk_at "W"
  refine andX_f (by decide) ?_
  refine ifX_f rfl ?_
  walk_at "W"
  refine TrAt.list (l := []) (by walk_at "M") (by decide) ?_
  refine ifX_t rfl ?_
  walk_at "W"
  exact q
theorem c_op_red_n {G : Gl} (I : IsG G) {ki ks : List (Int × AV)} {avs : List (Str × AV)} {p pn sym ops tk fr nu na co : Addr} {pl lim pr : Int} {term : AV} {FO S : Hp} {Q : AV → Hp → Prop} (hp : (p, .inst 517 pn) ∈ S) {T : List AV} {tok : AV} (htk : (tk, .list T) ∈ S) (h0 : 0 ≤ pl) (h1 : pl < 1000) (ht : T[pl.toNat]? = some tok) {od pt it st : Addr} (ho : (ops, .inst 286 od) ∈ S) (hod : (od, .ns nmOp [some (.ref sym), some (.ref pt), some (.ref it), some (.ref st)]) ∈ S) {dx tl an fl fn : Addr} {fkv : List (List Int × AV)} (hx : (sym, .inst 154 dx) ∈ S) (hd : (dx, .ns nmSy [some (.ref tl), some (.ref an), some (.ref fl), some (.ref fn)]) ∈ S) (hfn : (fn, .dT fkv) ∈ S) (hit : (it, .dI ki) ∈ S) (hst : (st, .dI ks) ∈ S) (ha : (an, .dS avs) ∈ S) {t : Str} {a : Int} {l : List AV} {e1 e2 : AV} (htok : tok = .tup (.str "name" :: .str t :: l)) (hk : aget avs t = some (.int a)) (ha0 : 0 ≤ a) (he1 : (aget ki a).getD .none = e1) (hi1 : isEnt e1) (he2 : (aget ks a).getD .none = e2) (hi2 : isEnt e2) (hb1 : adm e1 lim pr = false) (hb2 : adm e2 lim pr = false) {x dx' il : Addr} {flm k fp : Int} {left : AV} {fl0 : List AV} (hz : fl0.length ≤ 1000) (hkn : term.known = true) (hln : left.known = true) (q : Q (.int 1) (FO ++ (pn, .ns nmPa (paV sym ops tk fr nu na co "codes" pl flm (redT left k term) fp)) :: (fr, .list fl0) :: S))  : CallOk G 7 (.ref 465) [.ref p] (((x, .inst 309 dx') :: (dx', .ns nmFr (frV "operator" flm k (-1) fp left il)) :: (FO ++ (pn, .ns nmPa (paV sym ops tk fr nu na co "codes" pl lim term pr)) :: (fr, .list (fl0 ++ [.ref x])) :: S))) Q := by
  refine CallOk.go'' (n := 6) (ps := ["self"]) (ls' := ["token", "a"]) (gs := ["WANT_OPERAND", "WANT_OPERATOR", "DONE"]) (FnIn.lit (by rw [I.k]; walk_at "FN") (by conv => lhs; whnf)) I.g rfl ?_
  rintro X rfl hn ⟨l0, l1, l2, -⟩ ⟨g0, g1, g2, -⟩
  have q_WANT_OPERAND := I.fs.gl.i_WANT_OPERAND
  have q_WANT_OPERATOR := I.fs.gl.i_WANT_OPERATOR
  have q_DONE := I.fs.gl.i_DONE
  have aFr_kind := I.fs.fr.a_kind
  have aPa_frames := I.fs.pa.a_frames
  have mPa_peek := I.fs.pa.m_peek
  have mPa_operator_name := I.fs.pa.m_operator_name
  have mPa_shift_infix := I.fs.pa.m_shift_infix
  have mPa_apply_postfix := I.fs.pa.m_apply_postfix
  have mPa_reduce := I.fs.pa.m_reduce
  dsimp only [padL, List.map, List.cons_append, List.nil_append, List.length_cons, List.length_nil, List.replicate, Nat.zero_add]
  subst htok
  walk_at "W"
  refine Cl.fn' (c_peek I (FO := ((x, .inst 309 dx') :: (dx', .ns nmFr (frV "operator" flm k (-1) fp left il)) :: FO)) (by walk_at "M") (by walk_at "M") h0 h1 ht ?_) (le_n hn (by decide))
  walk_at "W"
  refine Cl.fn' (c_opname I (FO := ((x, .inst 309 dx') :: (dx', .ns nmFr (frV "operator" flm k (-1) fp left il)) :: FO)) (by walk_at "M") (by walk_at "M") (by walk_at "M") (by walk_at "M") hk ha0 ?_) (le_n hn (by decide))
  walk_at "W"
  refine andX_t (by simpa using ha0) ?_
  walk_at "W"
  refine Cl.fn' (c_shift_no I (FO := ((x, .inst 309 dx') :: (dx', .ns nmFr (frV "operator" flm k (-1) fp left il)) :: FO)) (by walk_at "M") (by walk_at "M") (by walk_at "M") (by walk_at "M") he1 hi1 hb1 ?_) (le_n hn (by decide))
  walk_at "W"
  refine andX_f rfl ?_
  refine ifX_f rfl ?_
  walk_at "W"
  refine andX_t (by simpa using ha0) ?_
  walk_at "W"
  refine Cl.fn' (c_post_no I (FO := ((x, .inst 309 dx') :: (dx', .ns nmFr (frV "operator" flm k (-1) fp left il)) :: FO)) (by walk_at "M") (by walk_at "M") (by walk_at "M") (by walk_at "M") he2 hi2 hb2 ?_) (le_n hn (by decide))
  walk_at "W"
  refine andX_f rfl ?_
  refine ifX_f rfl ?_
  walk_at "W"
  try dsimp only [List.cons_append]
  refine TrAt.list (l := fl0 ++ [.ref x]) (by walk_at "M") (by simp; omega) ?_
  refine ifX_f (by simp) ?_
  walk_at "W"
  refine Op2.lastList rfl (by walk_at "M") (by omega) ?_
  walk_at "W"
  refine ifX_t rfl ?_
  walk_at "W"
  refine Cl.fn' (c_reduce I (by walk_at "M") hz hkn hln ?_) (le_n hn (by decide))
  walk_at "W"
  exact q
theorem c_op_red_e {G : Gl} (I : IsG G) {ki ks : List (Int × AV)} {avs : List (Str × AV)} {p pn sym ops tk fr nu na co : Addr} {pl lim pr : Int} {term : AV} {FO S : Hp} {Q : AV → Hp → Prop} (hp : (p, .inst 517 pn) ∈ S) {T : List AV} {tok : AV} (htk : (tk, .list T) ∈ S) (h0 : 0 ≤ pl) (h1 : pl < 1000) (ht : T[pl.toNat]? = some tok) {od pt it st : Addr} (ho : (ops, .inst 286 od) ∈ S) (hod : (od, .ns nmOp [some (.ref sym), some (.ref pt), some (.ref it), some (.ref st)]) ∈ S) {dx tl an fl fn : Addr} {fkv : List (List Int × AV)} (hx : (sym, .inst 154 dx) ∈ S) (hd : (dx, .ns nmSy [some (.ref tl), some (.ref an), some (.ref fl), some (.ref fn)]) ∈ S) (hfn : (fn, .dT fkv) ∈ S) (hit : (it, .dI ki) ∈ S) (hst : (st, .dI ks) ∈ S) (ha : (an, .dS avs) ∈ S) {l : List AV} (htok : tok = .tup (.str "end" :: l)) {x dx' il : Addr} {flm k fp : Int} {left : AV} {fl0 : List AV} (hz : fl0.length ≤ 1000) (hkn : term.known = true) (hln : left.known = true) (q : Q (.int 1) (FO ++ (pn, .ns nmPa (paV sym ops tk fr nu na co "codes" pl flm (redT left k term) fp)) :: (fr, .list fl0) :: S))  : CallOk G 7 (.ref 465) [.ref p] (((x, .inst 309 dx') :: (dx', .ns nmFr (frV "operator" flm k (-1) fp left il)) :: (FO ++ (pn, .ns nmPa (paV sym ops tk fr nu na co "codes" pl lim term pr)) :: (fr, .list (fl0 ++ [.ref x])) :: S))) Q := by
  refine CallOk.go'' (n := 6) (ps := ["self"]) (ls' := ["token", "a"]) (gs := ["WANT_OPERAND", "WANT_OPERATOR", "DONE"]) (FnIn.lit (by rw [I.k]; walk_at "FN") (by conv => lhs; whnf)) I.g rfl ?_
  rintro X rfl hn ⟨l0, l1, l2, -⟩ ⟨g0, g1, g2, -⟩
  have q_WANT_OPERAND := I.fs.gl.i_WANT_OPERAND
  have q_WANT_OPERATOR := I.fs.gl.i_WANT_OPERATOR
  have q_DONE := I.fs.gl.i_DONE
  have aFr_kind := I.fs.fr.a_kind
  have aPa_frames := I.fs.pa.a_frames
  have mPa_peek := I.fs.pa.m_peek
  have mPa_operator_name := I.fs.pa.m_operator_name
  have mPa_shift_infix := I.fs.pa.m_shift_infix
  have mPa_apply_postfix := I.fs.pa.m_apply_postfix
  have mPa_reduce := I.fs.pa.m_reduce
  dsimp only [padL, List.map, List.cons_append, List.nil_append, List.length_cons, List.length_nil, List.replicate, Nat.zero_add]
  subst htok
  walk_at "W"
  refine Cl.fn' (c_peek I (FO := ((x, .inst 309 dx') :: (dx', .ns nmFr (frV "operator" flm k (-1) fp left il)) :: FO)) (by walk_at "M") (by walk_at "M") h0 h1 ht ?_) (le_n hn (by decide))
  walk_at "W"
  refine Cl.fn' (c_opname_end I (FO := ((x, .inst 309 dx') :: (dx', .ns nmFr (frV "operator" flm k (-1) fp left il)) :: FO)) (by walk_at "M") ?_) (le_n hn (by decide))
  walk_at "W"
  refine andX_f (by decide) ?_
  refine ifX_f rfl ?_
  walk_at "W"
  refine andX_f (by decide) ?_
  refine ifX_f rfl ?_
  walk_at "W"
  try dsimp only [List.cons_append]
  refine TrAt.list (l := fl0 ++ [.ref x]) (by walk_at "M") (by simp; omega) ?_
  refine ifX_f (by simp) ?_
  walk_at "W"
  refine Op2.lastList rfl (by walk_at "M") (by omega) ?_
  walk_at "W"
  refine ifX_t rfl ?_
  walk_at "W"
  refine Cl.fn' (c_reduce I (by walk_at "M") hz hkn hln ?_) (le_n hn (by decide))
  walk_at "W"
  exact q
open PySem PySem.W PySem.Calls PyProof.Rows PySem.SeqAt
theorem Tr.known (t : Tr) : t.av.known = true := by cases t <;> rfl
theorem Tr.notNone (t : Tr) : t.av.isNone = false := by cases t <;> rfl
noncomputable def OpE.ent (O : OpE) (j : Nat) : AV := .tup [.int (O.lev j), .str (O.fix j)]
noncomputable def tokAV (O : OpE) (pos : Int) : Tk → AV
  | .int k => .tup [.str "int", .int k, .int pos]
  | .op j => .tup [.str "name", .str (O.nm j), .int pos]
  | .fin => .tup [.str "end", .str ".", .int pos]
structure PEnv (tok : Nat → Option Tk) (O : OpE) (S : Hp) (p pn sym ops tk dx tl an fl fn od pt it st : Addr) (T : List AV) (avs : List (Str × AV)) (fkv : List (List Int × AV)) (ki ks : List (Int × AV)) : Prop where
  hp : (p, .inst 517 pn) ∈ S
  htk : (tk, .list T) ∈ S
  hx : (sym, .inst 154 dx) ∈ S
  hd : (dx, .ns nmSy [some (.ref tl), some (.ref an), some (.ref fl), some (.ref fn)]) ∈ S
  ha : (an, .dS avs) ∈ S
  hfn : (fn, .dT fkv) ∈ S
  ho : (ops, .inst 286 od) ∈ S
  hod : (od, .ns nmOp [some (.ref sym), some (.ref pt), some (.ref it), some (.ref st)]) ∈ S
  hit : (it, .dI ki) ∈ S
  hst : (st, .dI ks) ∈ S
  toks : ∀ i t, tok i = some t → i < 999 ∧ ∃ pos, T[i]? = some (tokAV O pos t)
  num : ∀ i j, tok i = some (.op j) → aget avs (O.nm j) = some (.int (O.num j)) ∧ 0 ≤ O.num j
  inf : ∀ i j, tok i = some (.op j) → O.inf j = true → aget ki (O.num j) = some (O.ent j) ∧ aget ks (O.num j) = none ∧ aget fkv [O.num j, 2] = some (.int (O.fn j)) ∧ O.rgt j = (bnd (O.lev j) (O.fix j)).2
  post : ∀ i j, tok i = some (.op j) → O.inf j = false → aget ki (O.num j) = none ∧ aget ks (O.num j) = some (O.ent j) ∧ aget fkv [O.num j, 1] = some (.int (O.fn j))
  fn0 : ∀ i j, tok i = some (.op j) → 0 ≤ O.fn j
  lft : ∀ i j, tok i = some (.op j) → O.lft j = (bnd (O.lev j) (O.fix j)).1
/-- the frames, and where they lie -/
structure FmA where
  m : Fm
  x : Addr
  dx : Addr
  il : Addr
noncomputable def optAV : Option Tr → AV
  | none => .none
  | some t => t.av
theorem optAV_known (o : Option Tr) : (optAV o).known = true := by cases o with
  | none => rfl
  | some t => exact t.known
theorem optAV_redu (f : Fm) (t : Tr) : redT (optAV f.left) f.f t.av = (f.redu t).av := by
  unfold redT Fm.redu
  cases h : f.left with
  | none => simp [optAV, AV.isNone, Tr.av]
  | some l => simp [optAV, Tr.notNone, Tr.av]
noncomputable def fo : List FmA → Hp
  | [] => []
  | f :: r => (f.x, .inst 309 f.dx) :: (f.dx, .ns nmFr (frV "operator" f.m.lim f.m.f (-1) f.m.lv (optAV f.m.left) f.il)) :: fo r
noncomputable def frl : List FmA → List AV
  | [] => []
  | f :: r => frl r ++ [.ref f.x]
theorem frl_len : ∀ l, (frl l).length = l.length
  | [] => rfl
  | f :: r => by simp [frl, frl_len r]
theorem adm_ent (O : OpE) (j : Nat) (lim pr : Int) : adm (O.ent j) lim pr = (decide (O.lev j ≤ lim) && decide (pr ≤ (bnd (O.lev j) (O.fix j)).1)) := rfl
section
variable {G : Gl} {p pn sym ops tk fr nu na co dx tl an fl fn od pt it st : Addr} {T : List AV} {avs : List (Str × AV)} {fkv : List (List Int × AV)} {ki ks : List (Int × AV)} {tok : Nat → Option Tk} {O : OpE} {S : Hp}
/-- the parser's own part of the store -/
noncomputable abbrev paSt (p pn sym ops tk fr nu na co : Addr) (S : Hp) (L : List FmA) (pl lim : Int) (term : AV) (pr : Int) : Hp := fo L ++ (pn, .ns nmPa (paV sym ops tk fr nu na co "codes" pl lim term pr)) :: (fr, .list (frl L)) :: S
/-- blocked: the machine stops or reduces -/
theorem op_blocked_done (I : IsG G) (P : PEnv tok O S p pn sym ops tk dx tl an fl fn od pt it st T avs fkv ki ks) {s : PSt} (hb : blocked tok O s) {Q : AV → Hp → Prop}
    (q : Q (.int 2) (paSt p pn sym ops tk fr nu na co S [] s.pl s.lim s.term.av s.pr)) : CallOk G 7 (.ref 465) [.ref p] (paSt p pn sym ops tk fr nu na co S [] s.pl s.lim s.term.av s.pr) Q := by
  rcases hb with hb | ⟨j, hj, hb⟩
  · obtain ⟨h1, pos, h2⟩ := P.toks _ _ hb
    exact c_op_done_e I (FO := []) P.hp P.htk (by omega) (by omega) (by simpa [tokAV] using h2) P.ho P.hod P.hx P.hd P.hfn P.hit P.hst P.ha rfl q
  · obtain ⟨h1, pos, h2⟩ := P.toks _ _ hj
    obtain ⟨n1, n2⟩ := P.num _ _ hj
    have hadm : adm (O.ent j) s.lim s.pr = false := by
      rw [adm_ent, ← P.lft _ _ hj]; simp only [Bool.and_eq_false_iff, decide_eq_false_iff_not]
      by_cases h : O.lev j ≤ s.lim
      · exact .inr fun h' => hb ⟨h, h'⟩
      · exact .inl h
    cases hi : O.inf j with
    | true =>
      obtain ⟨e1, e2, _⟩ := P.inf _ _ hj hi
      exact c_op_done_n I (FO := []) P.hp P.htk (by omega) (by omega) (by simpa [tokAV] using h2) P.ho P.hod P.hx P.hd P.hfn P.hit P.hst P.ha rfl n1 n2 (e1 := O.ent j) (e2 := .none) (by rw [e1]; rfl) (.inr ⟨_, _, rfl⟩) (by rw [e2]; rfl) (.inl rfl) hadm rfl q
    | false =>
      obtain ⟨e1, e2, _⟩ := P.post _ _ hj hi
      exact c_op_done_n I (FO := []) P.hp P.htk (by omega) (by omega) (by simpa [tokAV] using h2) P.ho P.hod P.hx P.hd P.hfn P.hit P.hst P.ha rfl n1 n2 (e1 := .none) (e2 := O.ent j) (by rw [e1]; rfl) (.inl rfl) (by rw [e2]; rfl) (.inr ⟨_, _, rfl⟩) rfl hadm q
theorem op_blocked_red (I : IsG G) (P : PEnv tok O S p pn sym ops tk dx tl an fl fn od pt it st T avs fkv ki ks) {pl : Nat} {lim pr : Int} {term : Tr} {f : FmA} {L : List FmA} {fs : List Fm} (hb : blocked tok O ⟨pl, lim, term, pr, fs⟩) (hz : L.length ≤ 1000) {Q : AV → Hp → Prop}
    (q : Q (.int 1) (paSt p pn sym ops tk fr nu na co S L pl f.m.lim (f.m.redu term).av f.m.lv)) : CallOk G 7 (.ref 465) [.ref p] (paSt p pn sym ops tk fr nu na co S (f :: L) pl lim term.av pr) Q := by
  rw [← optAV_redu] at q
  have hz' : (frl L).length ≤ 1000 := by rw [frl_len]; exact hz
  rcases hb with hb | ⟨j, hj, hb⟩
  · obtain ⟨h1, pos, h2⟩ := P.toks _ _ hb
    exact c_op_red_e I (FO := fo L) P.hp P.htk (by omega) (by simp only at h1; omega) (by simpa [tokAV] using h2) P.ho P.hod P.hx P.hd P.hfn P.hit P.hst P.ha rfl hz' term.known (optAV_known _) q
  · obtain ⟨h1, pos, h2⟩ := P.toks _ _ hj
    obtain ⟨n1, n2⟩ := P.num _ _ hj
    have hadm : adm (O.ent j) lim pr = false := by
      rw [adm_ent, ← P.lft _ _ hj]; simp only [Bool.and_eq_false_iff, decide_eq_false_iff_not]
      by_cases h : O.lev j ≤ lim
      · exact .inr fun h' => hb ⟨h, h'⟩
      · exact .inl h
    cases hi : O.inf j with
    | true =>
      obtain ⟨e1, e2, _⟩ := P.inf _ _ hj hi
      exact c_op_red_n I (FO := fo L) P.hp P.htk (by omega) (by simp only at h1; omega) (by simpa [tokAV] using h2) P.ho P.hod P.hx P.hd P.hfn P.hit P.hst P.ha rfl n1 n2 (e1 := O.ent j) (e2 := .none) (by rw [e1]; rfl) (.inr ⟨_, _, rfl⟩) (by rw [e2]; rfl) (.inl rfl) hadm rfl hz' term.known (optAV_known _) q
    | false =>
      obtain ⟨e1, e2, _⟩ := P.post _ _ hj hi
      exact c_op_red_n I (FO := fo L) P.hp P.htk (by omega) (by simp only at h1; omega) (by simpa [tokAV] using h2) P.ho P.hod P.hx P.hd P.hfn P.hit P.hst P.ha rfl n1 n2 (e1 := .none) (e2 := O.ent j) (by rw [e1]; rfl) (.inl rfl) (by rw [e2]; rfl) (.inr ⟨_, _, rfl⟩) rfl hadm hz' term.known (optAV_known _) q
theorem op_do_post (I : IsG G) (P : PEnv tok O S p pn sym ops tk dx tl an fl fn od pt it st T avs fkv ki ks) {pl : Nat} {lim pr : Int} {term : Tr} {L : List FmA} {j : Nat} (hj : tok pl = some (.op j)) (hi : O.inf j = false) (h1 : O.lev j ≤ lim) (h2 : pr ≤ O.lft j) {Q : AV → Hp → Prop}
    (q : Q (.int 1) (paSt p pn sym ops tk fr nu na co S L ((pl + 1 : Nat) : Int) lim (Tr.un (O.fn j) term).av (O.lev j))) : CallOk G 7 (.ref 465) [.ref p] (paSt p pn sym ops tk fr nu na co S L pl lim term.av pr) Q := by
  obtain ⟨l1, pos, l2⟩ := P.toks _ _ hj
  obtain ⟨n1, n2⟩ := P.num _ _ hj
  obtain ⟨e1, e2, e3⟩ := P.post _ _ hj hi
  exact c_op_post I (FO := fo L) P.hp P.htk (by omega) (by omega) (by simpa [tokAV] using l2) P.ho P.hod P.hx P.hd P.hfn P.hit P.hst P.ha rfl n1 n2 (e1 := .none) (e2 := O.ent j) (by rw [e1]; rfl) (.inl rfl) (by rw [e2]; rfl) (.inr ⟨_, _, rfl⟩) rfl rfl term.known
    (by have := P.lft _ _ hj; show adm (O.ent j) lim pr = true; rw [adm_ent, ← this]; simp [h1, h2]) e3 (P.fn0 _ _ hj) q
end
open PySem PySem.W PySem.Calls PyProof.Rows PySem.SeqAt
noncomputable abbrev nmSF : List Str := ["kind", "at", "row", "column"]
structure SfF (K : Frag) : Prop where
  ex : ExF K 51
  mkx : ExM K 51 48
  st : StE K 51
  a_kind : AtE K 51 nmSF "kind" 0
  a_at : AtE K 51 nmSF "at" 1
  a_row : AtE K 51 nmSF "row" 2
  a_column : AtE K 51 nmSF "column" 3
theorem IsG.sf {G : Gl} (I : IsG G) : SfF G.K := by
  rw [I.k]
  exact ⟨⟨⟨_, _, _, _, _, _, _, _, _, _, _, _, _, _, _, _, rfl, by decide +kernel⟩⟩, ⟨⟨_, _, _, _, _, _, _, _, _, _, _, _, _, _, _, _, _, _, _, _, _, _, rfl, rfl, rfl, rfl, by kernel_rfl, by kernel_rfl⟩, by kernel_rfl, by kernel_rfl⟩,
    ⟨by kernel_rfl, by kernel_rfl, by kernel_rfl, by kernel_rfl⟩, ⟨by kernel_rfl, by kernel_rfl, by unfold NIx; kernel_rfl⟩, ⟨by kernel_rfl, by kernel_rfl, by unfold NIx; kernel_rfl⟩, ⟨by kernel_rfl, by kernel_rfl, by unfold NIx; kernel_rfl⟩, ⟨by kernel_rfl, by kernel_rfl, by unfold NIx; kernel_rfl⟩⟩
theorem c_SF_init {G : Gl} (I : IsG G) {x : Addr} {k : Str} {a b c : Int} {R : Hp} {Q : AV → Hp → Prop} (q : ∀ dx, Q .none ((dx, .ns nmSF [some (.str k), some (.int a), some (.int b), some (.int c)]) :: (x, .exc 51 (some dx)) :: R)) : CallOk G 2 (.ref 48) [.ref x, .str k, .int a, .int b, .int c] ((x, .exc 51 none) :: R) Q := by
  refine CallOk.go'' (n := 1) (ps := ["self", "kind", "at", "row", "column"]) (ls' := []) (gs := []) (FnIn.lit (by rw [I.k]; walk_at "FN") (by conv => lhs; whnf)) I.g rfl ?_
  rintro X rfl hn ⟨l0, l1, l2, l3, l4, -⟩ -
  have aFr_kind := I.fs.fr.a_kind
  have stFr := I.fs.fr.st
  dsimp only [padL, List.map, List.cons_append, List.nil_append, List.length_cons, List.length_nil, List.replicate, Nat.zero_add]
  have Z := I.sf
  refine Xs.cons ?_
  refine Xs.setAttrE0 rfl ?_
  walk_at "W"
  refine ⟨_, _, _, _, _, rfl, by walk_at "M", Z.a_kind, Z.st, by walk_at "SA", by decide, fun dx => ⟨_, .here, ?_⟩⟩
  refine thenX_n ?_
  refine Xs.cons ?_
  refine Xs.setAttrE rfl ?_
  walk_at "W"
  refine ⟨_, _, _, _, _, _, _, _, rfl, by walk_at "M", by walk_at "U", Z.a_at, Z.st, by walk_at "SA", by simp, by decide, ?_⟩
  refine thenX_n ?_
  refine Xs.cons ?_
  refine Xs.setAttrE rfl ?_
  walk_at "W"
  refine ⟨_, _, _, _, _, _, _, _, rfl, by walk_at "M", by walk_at "U", Z.a_row, Z.st, by walk_at "SA", by simp, by decide, ?_⟩
  refine thenX_n ?_
  refine Xs.cons ?_
  refine Xs.setAttrE rfl ?_
  walk_at "W"
  refine ⟨_, _, _, _, _, _, _, _, rfl, by walk_at "M", by walk_at "U", Z.a_column, Z.st, by walk_at "SA", by simp, by decide, ?_⟩
  walk_at "W"
  exact q dx
theorem mk_SF {G : Gl} (I : IsG G) {k : Str} {a b c : Int} {σ : Hp} {Q : AV → Hp → Prop} (q : ∀ x dx, Q (.ref x) ((dx, .ns nmSF [some (.str k), some (.int a), some (.int b), some (.int c)]) :: (x, .exc 51 (some dx)) :: σ)) : CallOk G 3 (.ref 51) [.str k, .int a, .int b, .int c] σ Q :=
  .makeX I.g I.sf.mkx (by simp) fun x => c_SF_init I fun dx => ⟨rfl, q x dx⟩
theorem c_fault {G : Gl} (I : IsG G) {p : Addr} {k : Str} {t0 t1 : AV} {at_ : Int} {σ : Hp} {Q : AV → Hp → Prop} (q : ∀ x dx, Q (.ref x) ((dx, .ns nmSF [some (.str k), some (.int at_), some (.int 0), some (.int 0)]) :: (x, .exc 51 (some dx)) :: σ)) : CallOk G 4 (.ref 383) [.ref p, .str k, .tup [t0, t1, .int at_]] σ Q := by
  refine CallOk.go'' (n := 3) (ps := ["self", "kind", "token"]) (ls' := []) (gs := ["SyntaxFault"]) (FnIn.lit (by rw [I.k]; walk_at "FN") (by conv => lhs; whnf)) I.g rfl ?_
  rintro X rfl hn ⟨l0, l1, l2, -⟩ ⟨g0, -⟩
  have q_SyntaxFault := I.fs.gl.f_SyntaxFault
  dsimp only [padL, List.map, List.cons_append, List.nil_append, List.length_cons, List.length_nil, List.replicate, Nat.zero_add]
  walk_at "W"
  refine Cl.fn' (mk_SF I fun x dx => ?_) (le_n hn (by decide))
  walk_at "W"
  exact q x dx
theorem c_ends_no {G : Gl} (I : IsG G) {k : Str} {l : List AV} {σ : Hp} {Q : AV → Hp → Prop} (h1 : (k == "end") = false) (h2 : (k == "punct") = false) (q : Q (.bool false) σ) : CallOk G 2 (.ref 320) [.tup (.str k :: l)] σ Q := by
  refine CallOk.go'' (n := 1) (ps := ["token"]) (ls' := []) (gs := ["CLOSERS", "SEPARATORS"]) (FnIn.lit (by rw [I.k]; walk_at "FN") (by conv => lhs; whnf)) I.g rfl ?_
  rintro X rfl hn ⟨l0, -⟩ ⟨g0, g1, -⟩
  have q_CLOSERS := I.fs.gl.t_CLOSERS
  have q_SEPARATORS := I.fs.gl.t_SEPARATORS
  dsimp only [padL, List.map, List.cons_append, List.nil_append, List.length_cons, List.length_nil, List.replicate, Nat.zero_add]
  walk_at "W"
  refine Ev.or ?_
  walk_at "W"
  refine orV_f h1 ?_
  walk_at "W"
  refine andV_f h2 ?_
  walk_at "W"
  exact q
theorem c_is_operator {G : Gl} (I : IsG G) {a : Int} {kvs : List (Int × AV)} {o od sym pt it st : Addr} {σ : Hp} {Q : AV → Hp → Prop} (ho : (o, .inst 286 od) ∈ σ) (hod : (od, .ns nmOp [some (.ref sym), some (.ref pt), some (.ref it), some (.ref st)]) ∈ σ) (ht : (pt, .dI kvs) ∈ σ) (hk : (aget kvs a).isSome = true) (q : Q (.bool true) σ) : CallOk G 2 (.ref 262) [.ref o, .int a] σ Q := by
  refine CallOk.go'' (n := 1) (ps := ["self", "a"]) (ls' := []) (gs := []) (FnIn.lit (by rw [I.k]; walk_at "FN") (by conv => lhs; whnf)) I.g rfl ?_
  rintro X rfl hn ⟨l0, l1, -⟩ -
  have aOp_prefixes := I.fs.op.a_prefixes
  have aOp_infixes := I.fs.op.a_infixes
  have aOp_postfixes := I.fs.op.a_postfixes
  dsimp only [padL, List.map, List.cons_append, List.nil_append, List.length_cons, List.length_nil, List.replicate, Nat.zero_add]
  walk_at "W"
  refine Ev.or ?_
  walk_at "W"
  refine Op2.inDI (by omega) (by walk_at "M") hk ?_
  walk_at "W"
  refine orV_t rfl ?_
  walk_at "W"
  exact q
open PySem PySem.W PySem.Calls PyProof.Rows PySem.SeqAt
theorem Le.suf {a b l : Hp} (h : Le a b) : Le a (l ++ b) := by
  induction l with
  | nil => exact h
  | cons p l ih => exact .cut ih
theorem Le.swap {p q : Addr × AO} {a b : Hp} (h : Le a b) : Le (p :: q :: a) (q :: p :: b) := by
  obtain ⟨t, z⟩ := h
  exact ⟨t, (List.Perm.swap ..).trans ((z.cons q).cons p)⟩
theorem c_oo_yes {G : Gl} (I : IsG G) {a lv k pos : Int} {t fx : Str} {fl0 : List AV} {kp : List (Int × AV)} {p pn sym ops tk fr nu na co : Addr} {pl lim pr : Int} {term : AV} {FO S : Hp} {Q : AV → Hp → Prop} (hp : (p, .inst 517 pn) ∈ S) {T : List AV} {nk : Str} {nl : List AV} (htk : (tk, .list T) ∈ S) (h0 : 0 ≤ pl) (h1 : pl < 1000) (ht : T[pl.toNat]? = some (.tup (.str nk :: nl))) (hn1 : (nk == "end") = false) (hn2 : (nk == "punct") = false) (hn3 : (nk == "open_ct") = false) {od pt it st : Addr} (ho : (ops, .inst 286 od) ∈ S) (hod : (od, .ns nmOp [some (.ref sym), some (.ref pt), some (.ref it), some (.ref st)]) ∈ S) {dx tl an fl fn : Addr} {fkv : List (List Int × AV)} (hx : (sym, .inst 154 dx) ∈ S) (hd : (dx, .ns nmSy [some (.ref tl), some (.ref an), some (.ref fl), some (.ref fn)]) ∈ S) (hfn : (fn, .dT fkv) ∈ S) (hpt : (pt, .dI kp) ∈ S) (he : (aget kp a).getD .none = .tup [.int lv, .str fx]) (hz : fl0.length ≤ 1000) (hb : lv ≤ lim) (hf : aget fkv [a, 1] = some (.int k)) (hk0 : 0 ≤ k) (q : ∀ x dx' il, Q (.int 0) ((x, .inst 309 dx') :: (dx', .ns nmFr (frV "operator" lim k (-1) lv .none il)) :: (FO ++ (pn, .ns nmPa (paV sym ops tk fr nu na co "codes" pl (bnd lv fx).2 term pr)) :: (fr, .list (fl0 ++ [.ref x])) :: S))) : CallOk G 6 (.ref 432) [.ref p, .int a, .tup [.str "name", .str t, .int pos]] (FO ++ (pn, .ns nmPa (paV sym ops tk fr nu na co "codes" pl lim term pr)) :: (fr, .list fl0) :: S) Q := by
  refine CallOk.go'' (n := 5) (ps := ["self", "a", "token"]) (ls' := ["entry", "frame"]) (gs := ["ends_operand", "atom", "Frame", "bounds", "WANT_OPERAND"]) (FnIn.lit (by rw [I.k]; walk_at "FN") (by conv => lhs; whnf)) I.g rfl ?_
  rintro X rfl hn ⟨l0, l1, l2, l3, l4, -⟩ ⟨g0, g1, g2, g3, g4, -⟩
  have q_ends_operand := I.fs.gl.f_ends_operand
  have q_atom := I.fs.gl.f_atom
  have q_Frame := I.fs.gl.f_Frame
  have q_bounds := I.fs.gl.f_bounds
  have q_WANT_OPERAND := I.fs.gl.i_WANT_OPERAND
  have mSy_functor := I.fs.sy.m_functor
  have aOp_symbols := I.fs.op.a_symbols
  have mOp_prefix := I.fs.op.m_prefix
  have stOp := I.fs.op.st
  have aFr_limit := I.fs.fr.a_limit
  have aFr_functor := I.fs.fr.a_functor
  have aFr_priority := I.fs.fr.a_priority
  have stFr := I.fs.fr.st
  have aPa_symbols := I.fs.pa.a_symbols
  have aPa_operators := I.fs.pa.a_operators
  have aPa_frames := I.fs.pa.a_frames
  have aPa_limit := I.fs.pa.a_limit
  have aPa_priority := I.fs.pa.a_priority
  have mPa_peek := I.fs.pa.m_peek
  have mPa_fault := I.fs.pa.m_fault
  have mPa_settle := I.fs.pa.m_settle
  have mPa_stands_alone := I.fs.pa.m_stands_alone
  have stPa := I.fs.pa.st
  dsimp only [padL, List.map, List.cons_append, List.nil_append, List.length_cons, List.length_nil, List.replicate, Nat.zero_add]
  walk_at "W"
  refine Cl.fn' (c_peek I (by walk_at "M") (by walk_at "M") h0 h1 ht ?_) (le_n hn (by decide))
  walk_at "W"
  refine Cl.fn' (c_ends_no I hn1 hn2 ?_) (le_n hn (by decide))
  walk_at "W"
  refine ifX_f rfl ?_
  walk_at "W"
  refine Cl.fn' (c_op_prefix I (by walk_at "M") (by walk_at "M") (by walk_at "M") ?_) (le_n hn (by decide))
  rw [he]
  walk_at "W"
  refine orX_f rfl ?_
  walk_at "W"
  refine orX_f (by simpa using hb) ?_
  walk_at "W"
  refine ifX_f rfl ?_
  walk_at "W"
  refine Cl.fn' (mk_Frame I fun x dx' il => ?_) (le_n hn (by decide))
  walk_at "W"
  refine Cl.fn' (c_functor I (by walk_at "M") (by walk_at "M") (by walk_at "M") hf hk0 ?_) (le_n hn (by decide))
  walk_at "W"
  refine Cl.fn' (c_bounds I ?_) (le_n hn (by decide))
  walk_at "W"
  exact q x dx' il
theorem r_oo {G : Gl} (I : IsG G) {a lv pos : Int} {t fx : Str} {fl0 : List AV} {kp : List (Int × AV)} {p pn sym ops tk fr nu na co : Addr} {pl lim pr : Int} {term : AV} {FO S : Hp} (hp : (p, .inst 517 pn) ∈ S) {T : List AV} {nk : Str} {nl : List AV} (htk : (tk, .list T) ∈ S) (h0 : 0 ≤ pl) (h1 : pl < 1000) (ht : T[pl.toNat]? = some (.tup (.str nk :: nl))) (hn1 : (nk == "end") = false) (hn2 : (nk == "punct") = false) (hn3 : (nk == "open_ct") = false) {od pt it st : Addr} (ho : (ops, .inst 286 od) ∈ S) (hod : (od, .ns nmOp [some (.ref sym), some (.ref pt), some (.ref it), some (.ref st)]) ∈ S) (hpt : (pt, .dI kp) ∈ S) (he : (aget kp a).getD .none = .tup [.int lv, .str fx]) (hb : lim < lv) {EQ : Addr → Hp → Prop} (q : ∀ dxe, EQ dxe ((dxe, .ns nmSF [some (.str "priority"), some (.int pos), some (.int 0), some (.int 0)]) :: S)) : CallR G 6 (.ref 432) [.ref p, .int a, .tup [.str "name", .str t, .int pos]] (FO ++ (pn, .ns nmPa (paV sym ops tk fr nu na co "codes" pl lim term pr)) :: (fr, .list fl0) :: S) 51 EQ := by
  refine CallR.go'' (n := 5) (ps := ["self", "a", "token"]) (ls' := ["entry", "frame"]) (gs := ["ends_operand", "atom", "Frame", "bounds", "WANT_OPERAND"]) (FnIn.lit (by rw [I.k]; walk_at "FN") (by conv => lhs; whnf)) I.g rfl ?_
  rintro X rfl hn p0 hp0 ⟨l0, l1, l2, l3, l4, -⟩ ⟨g0, g1, g2, g3, g4, -⟩
  have q_ends_operand := I.fs.gl.f_ends_operand
  have q_atom := I.fs.gl.f_atom
  have q_Frame := I.fs.gl.f_Frame
  have q_bounds := I.fs.gl.f_bounds
  have q_WANT_OPERAND := I.fs.gl.i_WANT_OPERAND
  have mSy_functor := I.fs.sy.m_functor
  have aOp_symbols := I.fs.op.a_symbols
  have mOp_prefix := I.fs.op.m_prefix
  have stOp := I.fs.op.st
  have aFr_limit := I.fs.fr.a_limit
  have aFr_functor := I.fs.fr.a_functor
  have aFr_priority := I.fs.fr.a_priority
  have stFr := I.fs.fr.st
  have aPa_symbols := I.fs.pa.a_symbols
  have aPa_operators := I.fs.pa.a_operators
  have aPa_frames := I.fs.pa.a_frames
  have aPa_limit := I.fs.pa.a_limit
  have aPa_priority := I.fs.pa.a_priority
  have mPa_peek := I.fs.pa.m_peek
  have mPa_fault := I.fs.pa.m_fault
  have mPa_settle := I.fs.pa.m_settle
  have mPa_stands_alone := I.fs.pa.m_stands_alone
  have stPa := I.fs.pa.st
  dsimp only [padL, List.map, List.cons_append, List.nil_append, List.length_cons, List.length_nil, List.replicate, Nat.zero_add]
  walk_at "W"
  refine Cl.fn' (c_peek I (by walk_at "M") (by walk_at "M") h0 h1 ht ?_) (le_n hn (by decide))
  walk_at "W"
  refine Cl.fn' (c_ends_no I hn1 hn2 ?_) (le_n hn (by decide))
  walk_at "W"
  refine ifX_f rfl ?_
  walk_at "W"
  refine Cl.fn' (c_op_prefix I (by walk_at "M") (by walk_at "M") (by walk_at "M") ?_) (le_n hn (by decide))
  rw [he]
  walk_at "W"
  refine orX_f rfl ?_
  walk_at "W"
  refine orX_t (by simpa using hb) ?_
  walk_at "W"
  refine ifX_t rfl ?_
  refine Xs.cons ?_
  refine Xs.raise hp0 I.sf.ex (by omega) ?_
  walk_at "W"
  refine Cl.fn' (c_fault I fun x dxe => ?_) (le_n hn (by decide))
  exact ⟨x, dxe, _, rfl, .swap (.suf (.cut (.cut (.refl _)))), q dxe, trivial⟩
theorem c_named_yes {G : Gl} (I : IsG G) {a lv k pos : Int} {t fx : Str} {fl0 : List AV} {kp : List (Int × AV)} {p pn sym ops tk fr nu na co : Addr} {pl lim pr : Int} {term : AV} {FO S : Hp} {Q : AV → Hp → Prop} (hp : (p, .inst 517 pn) ∈ S) {T : List AV} {nk : Str} {nl : List AV} (htk : (tk, .list T) ∈ S) (h0 : 0 ≤ pl) (h1 : pl < 1000) (ht : T[pl.toNat]? = some (.tup (.str nk :: nl))) (hn1 : (nk == "end") = false) (hn2 : (nk == "punct") = false) (hn3 : (nk == "open_ct") = false) {od pt it st : Addr} (ho : (ops, .inst 286 od) ∈ S) (hod : (od, .ns nmOp [some (.ref sym), some (.ref pt), some (.ref it), some (.ref st)]) ∈ S) {dx tl an fl fn : Addr} {fkv : List (List Int × AV)} (hx : (sym, .inst 154 dx) ∈ S) (hd : (dx, .ns nmSy [some (.ref tl), some (.ref an), some (.ref fl), some (.ref fn)]) ∈ S) (hfn : (fn, .dT fkv) ∈ S) (hpt : (pt, .dI kp) ∈ S) (he : (aget kp a).getD .none = .tup [.int lv, .str fx]) (hz : fl0.length ≤ 1000) (hb : lv ≤ lim) (hf : aget fkv [a, 1] = some (.int k)) (hk0 : 0 ≤ k) (hta : (t == "-") = false) (q : ∀ x dx' il, Q (.int 0) ((x, .inst 309 dx') :: (dx', .ns nmFr (frV "operator" lim k (-1) lv .none il)) :: (FO ++ (pn, .ns nmPa (paV sym ops tk fr nu na co "codes" pl (bnd lv fx).2 term pr)) :: (fr, .list (fl0 ++ [.ref x])) :: S))) : CallOk G 7 (.ref 425) [.ref p, .int a, .tup [.str "name", .str t, .int pos]] (FO ++ (pn, .ns nmPa (paV sym ops tk fr nu na co "codes" pl lim term pr)) :: (fr, .list fl0) :: S) Q := by
  refine CallOk.go'' (n := 6) (ps := ["self", "a", "token"]) (ls' := ["follower"]) (gs := ["ARGUMENT_PRIORITY", "integer", "atom"]) (FnIn.lit (by rw [I.k]; walk_at "FN") (by conv => lhs; whnf)) I.g rfl ?_
  rintro X rfl hn ⟨l0, l1, l2, l3, -⟩ ⟨g0, g1, g2, -⟩
  have q_ARGUMENT_PRIORITY := I.fs.gl.i_ARGUMENT_PRIORITY
  have q_integer := I.fs.gl.f_integer
  have q_atom := I.fs.gl.f_atom
  have mOp_is_operator := I.fs.op.m_is_operator
  have aPa_operators := I.fs.pa.a_operators
  have mPa_peek := I.fs.pa.m_peek
  have mPa_take := I.fs.pa.m_take
  have mPa_settle := I.fs.pa.m_settle
  have mPa_operator_operand := I.fs.pa.m_operator_operand
  dsimp only [padL, List.map, List.cons_append, List.nil_append, List.length_cons, List.length_nil, List.replicate, Nat.zero_add]
  walk_at "W"
  refine Cl.fn' (c_peek I (by walk_at "M") (by walk_at "M") h0 h1 ht ?_) (le_n hn (by decide))
  walk_at "W"
  refine ifX_f hn3 ?_
  walk_at "W"
  refine andX_t rfl ?_
  walk_at "W"
  refine andX_f hta ?_
  refine ifX_f rfl ?_
  walk_at "W"
  refine Cl.fn' (c_is_operator I (by walk_at "M") (by walk_at "M") (by walk_at "M") (by cases hq : aget kp a with | none => rw [hq] at he; cases he | some _ => rfl) ?_) (le_n hn (by decide))
  walk_at "W"
  refine ifX_t rfl ?_
  walk_at "W"
  refine Cl.fn' (c_oo_yes I (by walk_at "M") (by walk_at "M") h0 h1 ht hn1 hn2 hn3 (by walk_at "M") (by walk_at "M") (by walk_at "M") (by walk_at "M") (by walk_at "M") (by walk_at "M") he hz hb hf hk0 q) (le_n hn (by decide))
theorem r_named {G : Gl} (I : IsG G) {a lv pos : Int} {t fx : Str} {fl0 : List AV} {kp : List (Int × AV)} {p pn sym ops tk fr nu na co : Addr} {pl lim pr : Int} {term : AV} {FO S : Hp} (hp : (p, .inst 517 pn) ∈ S) {T : List AV} {nk : Str} {nl : List AV} (htk : (tk, .list T) ∈ S) (h0 : 0 ≤ pl) (h1 : pl < 1000) (ht : T[pl.toNat]? = some (.tup (.str nk :: nl))) (hn1 : (nk == "end") = false) (hn2 : (nk == "punct") = false) (hn3 : (nk == "open_ct") = false) {od pt it st : Addr} (ho : (ops, .inst 286 od) ∈ S) (hod : (od, .ns nmOp [some (.ref sym), some (.ref pt), some (.ref it), some (.ref st)]) ∈ S) (hpt : (pt, .dI kp) ∈ S) (he : (aget kp a).getD .none = .tup [.int lv, .str fx]) (hb : lim < lv) (hta : (t == "-") = false) {EQ : Addr → Hp → Prop} (q : ∀ dxe, EQ dxe ((dxe, .ns nmSF [some (.str "priority"), some (.int pos), some (.int 0), some (.int 0)]) :: S)) : CallR G 7 (.ref 425) [.ref p, .int a, .tup [.str "name", .str t, .int pos]] (FO ++ (pn, .ns nmPa (paV sym ops tk fr nu na co "codes" pl lim term pr)) :: (fr, .list fl0) :: S) 51 EQ := by
  refine CallR.go'' (n := 6) (ps := ["self", "a", "token"]) (ls' := ["follower"]) (gs := ["ARGUMENT_PRIORITY", "integer", "atom"]) (FnIn.lit (by rw [I.k]; walk_at "FN") (by conv => lhs; whnf)) I.g rfl ?_
  rintro X rfl hn p0 hp0 ⟨l0, l1, l2, l3, -⟩ ⟨g0, g1, g2, -⟩
  have q_ARGUMENT_PRIORITY := I.fs.gl.i_ARGUMENT_PRIORITY
  have q_integer := I.fs.gl.f_integer
  have q_atom := I.fs.gl.f_atom
  have mOp_is_operator := I.fs.op.m_is_operator
  have aPa_operators := I.fs.pa.a_operators
  have mPa_peek := I.fs.pa.m_peek
  have mPa_take := I.fs.pa.m_take
  have mPa_settle := I.fs.pa.m_settle
  have mPa_operator_operand := I.fs.pa.m_operator_operand
  dsimp only [padL, List.map, List.cons_append, List.nil_append, List.length_cons, List.length_nil, List.replicate, Nat.zero_add]
  walk_at "W"
  refine Cl.fn' (c_peek I (by walk_at "M") (by walk_at "M") h0 h1 ht ?_) (le_n hn (by decide))
  walk_at "W"
  refine ifX_f hn3 ?_
  walk_at "W"
  refine andX_t rfl ?_
  walk_at "W"
  refine andX_f hta ?_
  refine ifX_f rfl ?_
  walk_at "W"
  refine Cl.fn' (c_is_operator I (by walk_at "M") (by walk_at "M") (by walk_at "M") (by cases hq : aget kp a with | none => rw [hq] at he; cases he | some _ => rfl) ?_) (le_n hn (by decide))
  walk_at "W"
  refine ifX_t rfl ?_
  walk_at "W"
  exact Cl.fnR' hp0 (r_oo I (by walk_at "M") (by walk_at "M") h0 h1 ht hn1 hn2 hn3 (by walk_at "M") (by walk_at "M") (by walk_at "M") he hb q) (le_n hn (by decide)) trivial
theorem c_operand_pre {G : Gl} (I : IsG G) {a lv k pos : Int} {t fx : Str} {fl0 : List AV} {kp : List (Int × AV)} {p pn sym ops tk fr nu na co : Addr} {pl lim pr : Int} {term : AV} {FO S : Hp} {Q : AV → Hp → Prop} (hp : (p, .inst 517 pn) ∈ S) {T : List AV} {nk : Str} {nl : List AV} (htk : (tk, .list T) ∈ S) (h0 : 0 ≤ pl) (h1 : pl < 999) (ht : T[(pl + 1).toNat]? = some (.tup (.str nk :: nl))) (hn1 : (nk == "end") = false) (hn2 : (nk == "punct") = false) (hn3 : (nk == "open_ct") = false) (htt : T[pl.toNat]? = some (.tup [.str "name", .str t, .int pos])) {od pt it st : Addr} (ho : (ops, .inst 286 od) ∈ S) (hod : (od, .ns nmOp [some (.ref sym), some (.ref pt), some (.ref it), some (.ref st)]) ∈ S) {dx tl an fl fn : Addr} {fkv : List (List Int × AV)} (hx : (sym, .inst 154 dx) ∈ S) (hd : (dx, .ns nmSy [some (.ref tl), some (.ref an), some (.ref fl), some (.ref fn)]) ∈ S) (hfn : (fn, .dT fkv) ∈ S) {avs : List (Str × AV)} (ha : (an, .dS avs) ∈ S) (hka : aget avs t = some (.int a)) (hka0 : 0 ≤ a) (hpt : (pt, .dI kp) ∈ S) (he : (aget kp a).getD .none = .tup [.int lv, .str fx]) (hz : fl0.length ≤ 1000) (hb : lv ≤ lim) (hf : aget fkv [a, 1] = some (.int k)) (hk0 : 0 ≤ k) (hta : (t == "-") = false) (q : ∀ x dx' il, Q (.int 0) ((x, .inst 309 dx') :: (dx', .ns nmFr (frV "operator" lim k (-1) lv .none il)) :: (FO ++ (pn, .ns nmPa (paV sym ops tk fr nu na co "codes" (pl + 1) (bnd lv fx).2 term pr)) :: (fr, .list (fl0 ++ [.ref x])) :: S))) : CallOk G 8 (.ref 418) [.ref p] (FO ++ (pn, .ns nmPa (paV sym ops tk fr nu na co "codes" pl lim term pr)) :: (fr, .list fl0) :: S) Q := by
  refine CallOk.go'' (n := 7) (ps := ["self"]) (ls' := ["token", "kind"]) (gs := ["integer", "CLAUSE_PRIORITY", "is_punct", "A_NIL", "ARGUMENT_PRIORITY", "A_CURLY"]) (FnIn.lit (by rw [I.k]; walk_at "FN") (by conv => lhs; whnf)) I.g rfl ?_
  rintro X rfl hn ⟨l0, l1, l2, -⟩ ⟨g0, g1, g2, g3, g4, g5, -⟩
  have q_integer := I.fs.gl.f_integer
  have q_CLAUSE_PRIORITY := I.fs.gl.i_CLAUSE_PRIORITY
  have q_is_punct := I.fs.gl.f_is_punct
  have q_A_NIL := I.fs.gl.i_A_NIL
  have q_ARGUMENT_PRIORITY := I.fs.gl.i_ARGUMENT_PRIORITY
  have q_A_CURLY := I.fs.gl.i_A_CURLY
  have mSy_atom := I.fs.sy.m_atom
  have aOp_symbols := I.fs.op.a_symbols
  have aPa_symbols := I.fs.pa.a_symbols
  have mPa_peek := I.fs.pa.m_peek
  have mPa_take := I.fs.pa.m_take
  have mPa_fault := I.fs.pa.m_fault
  have mPa_settle := I.fs.pa.m_settle
  have mPa_named := I.fs.pa.m_named
  dsimp only [padL, List.map, List.cons_append, List.nil_append, List.length_cons, List.length_nil, List.replicate, Nat.zero_add]
  walk_at "W"
  refine Cl.fn' (c_take I (by walk_at "M") (by walk_at "M") h0 (by omega) htt ?_) (le_n hn (by decide))
  walk_at "W"
  refine ifX_f (by decide +kernel) ?_
  walk_at "W"
  refine ifX_f (by decide +kernel) ?_
  walk_at "W"
  refine ifX_f (by decide +kernel) ?_
  walk_at "W"
  refine orX_f (by decide +kernel) ?_
  walk_at "W"
  refine orX_f (by decide +kernel) ?_
  walk_at "W"
  refine ifX_f rfl ?_
  walk_at "W"
  refine orX_t rfl ?_
  walk_at "W"
  refine ifX_t rfl ?_
  walk_at "W"
  refine Cl.fn' (sy_atom I (by walk_at "M") (by walk_at "M") (by walk_at "M") hka hka0 ?_) (le_n hn (by decide))
  walk_at "W"
  refine Cl.fn' (c_named_yes I (by walk_at "M") (by walk_at "M") (by omega) (by omega) ht hn1 hn2 hn3 (by walk_at "M") (by walk_at "M") (by walk_at "M") (by walk_at "M") (by walk_at "M") (by walk_at "M") he hz hb hf hk0 hta q) (le_n hn (by decide))
theorem r_operand_pre {G : Gl} (I : IsG G) {a lv pos : Int} {t fx : Str} {fl0 : List AV} {kp : List (Int × AV)} {p pn sym ops tk fr nu na co : Addr} {pl lim pr : Int} {term : AV} {FO S : Hp} (hp : (p, .inst 517 pn) ∈ S) {T : List AV} {nk : Str} {nl : List AV} (htk : (tk, .list T) ∈ S) (h0 : 0 ≤ pl) (h1 : pl < 999) (ht : T[(pl + 1).toNat]? = some (.tup (.str nk :: nl))) (hn1 : (nk == "end") = false) (hn2 : (nk == "punct") = false) (hn3 : (nk == "open_ct") = false) (htt : T[pl.toNat]? = some (.tup [.str "name", .str t, .int pos])) {od pt it st : Addr} (ho : (ops, .inst 286 od) ∈ S) (hod : (od, .ns nmOp [some (.ref sym), some (.ref pt), some (.ref it), some (.ref st)]) ∈ S) {dx tl an fl fn : Addr} (hx : (sym, .inst 154 dx) ∈ S) (hd : (dx, .ns nmSy [some (.ref tl), some (.ref an), some (.ref fl), some (.ref fn)]) ∈ S) {avs : List (Str × AV)} (ha : (an, .dS avs) ∈ S) (hka : aget avs t = some (.int a)) (hka0 : 0 ≤ a) (hpt : (pt, .dI kp) ∈ S) (he : (aget kp a).getD .none = .tup [.int lv, .str fx]) (hb : lim < lv) (hta : (t == "-") = false) {EQ : Addr → Hp → Prop} (q : ∀ dxe, EQ dxe ((dxe, .ns nmSF [some (.str "priority"), some (.int pos), some (.int 0), some (.int 0)]) :: S)) : CallR G 8 (.ref 418) [.ref p] (FO ++ (pn, .ns nmPa (paV sym ops tk fr nu na co "codes" pl lim term pr)) :: (fr, .list fl0) :: S) 51 EQ := by
  refine CallR.go'' (n := 7) (ps := ["self"]) (ls' := ["token", "kind"]) (gs := ["integer", "CLAUSE_PRIORITY", "is_punct", "A_NIL", "ARGUMENT_PRIORITY", "A_CURLY"]) (FnIn.lit (by rw [I.k]; walk_at "FN") (by conv => lhs; whnf)) I.g rfl ?_
  rintro X rfl hn p0 hp0 ⟨l0, l1, l2, -⟩ ⟨g0, g1, g2, g3, g4, g5, -⟩
  have q_integer := I.fs.gl.f_integer
  have q_CLAUSE_PRIORITY := I.fs.gl.i_CLAUSE_PRIORITY
  have q_is_punct := I.fs.gl.f_is_punct
  have q_A_NIL := I.fs.gl.i_A_NIL
  have q_ARGUMENT_PRIORITY := I.fs.gl.i_ARGUMENT_PRIORITY
  have q_A_CURLY := I.fs.gl.i_A_CURLY
  have mSy_atom := I.fs.sy.m_atom
  have aOp_symbols := I.fs.op.a_symbols
  have aPa_symbols := I.fs.pa.a_symbols
  have mPa_peek := I.fs.pa.m_peek
  have mPa_take := I.fs.pa.m_take
  have mPa_fault := I.fs.pa.m_fault
  have mPa_settle := I.fs.pa.m_settle
  have mPa_named := I.fs.pa.m_named
  dsimp only [padL, List.map, List.cons_append, List.nil_append, List.length_cons, List.length_nil, List.replicate, Nat.zero_add]
  walk_at "W"
  refine Cl.fn' (c_take I (by walk_at "M") (by walk_at "M") h0 (by omega) htt ?_) (le_n hn (by decide))
  walk_at "W"
  refine ifX_f (by decide +kernel) ?_
  walk_at "W"
  refine ifX_f (by decide +kernel) ?_
  walk_at "W"
  refine ifX_f (by decide +kernel) ?_
  walk_at "W"
  refine orX_f (by decide +kernel) ?_
  walk_at "W"
  refine orX_f (by decide +kernel) ?_
  walk_at "W"
  refine ifX_f rfl ?_
  walk_at "W"
  refine orX_t rfl ?_
  walk_at "W"
  refine ifX_t rfl ?_
  walk_at "W"
  refine Cl.fn' (sy_atom I (by walk_at "M") (by walk_at "M") (by walk_at "M") hka hka0 ?_) (le_n hn (by decide))
  walk_at "W"
  exact Cl.fnR' hp0 (r_named I (by walk_at "M") (by walk_at "M") (by omega) (by omega) ht hn1 hn2 hn3 (by walk_at "M") (by walk_at "M") (by walk_at "M") he hb hta q) (le_n hn (by decide)) trivial
open PySem PySem.W PySem.Calls PyProof.Rows PySem.SeqAt
/-- a prefix operator of the row -/
structure PrO where
  nm : Str
  num : Int
  lev : Int
  fix : Str
  fn : Int
  pos : Int
noncomputable def PrO.rgt (p : PrO) : Int := (bnd p.lev p.fix).2
noncomputable def preStep (s : Int × List Fm) (p : PrO) : Int × List Fm := (p.rgt, ⟨p.fn, p.lev, s.1, none⟩ :: s.2)
noncomputable def preRun (most : Int) (ps : List PrO) : Int × List Fm := ps.foldl preStep (most, [])
theorem preRun_succ {most : Int} {ps : List PrO} {i : Nat} {o : PrO} (h : ps[i]? = some o) : preRun most (ps.take (i + 1)) = preStep (preRun most (ps.take i)) o := by
  unfold preRun
  rw [take_succ_eq h, List.foldl_append]; rfl
inductive parI (tok : Nat → Option Tk) (O : OpE) (p pn sym ops tk fr nu na co : Addr) (S : Hp) (ps : List PrO) (most : Int) (n : Nat) (r : PSt) (nn : Nat) (m : Loc) (σ : Hp) : Prop
  | run (s : PSt) (L : List FmA) : m = [some (.ref p), some (.int most), some (.int 1)] → Run tok O nn s r → s.fs = L.map (·.m) → L.length + nn ≤ 900 → σ = paSt p pn sym ops tk fr nu na co S L s.pl s.lim s.term.av s.pr → parI tok O p pn sym ops tk fr nu na co S ps most n r nn m σ
  | fin : m = [some (.ref p), some (.int most), some (.int 2)] → r.fs = [] → σ = paSt p pn sym ops tk fr nu na co S [] r.pl r.lim r.term.av r.pr → parI tok O p pn sym ops tk fr nu na co S ps most n r nn m σ
  | pre (i : Nat) (L : List FmA) : m = [some (.ref p), some (.int most), some (.int 0)] → i ≤ ps.length → nn = n + 1 + (ps.length - i) → L.map (·.m) = (preRun most (ps.take i)).2 → L.length = i → σ = paSt p pn sym ops tk fr nu na co S L i (preRun most (ps.take i)).1 .none 0 → parI tok O p pn sym ops tk fr nu na co S ps most n r nn m σ
structure PreEnv (ps : List PrO) (T : List AV) (avs : List (Str × AV)) (fkv : List (List Int × AV)) (kp : List (Int × AV)) : Prop where
  tok : ∀ (i : Nat) (o : PrO), ps[i]? = some o → T[i]? = some (.tup [.str "name", .str o.nm, .int o.pos])
  next : ∀ (i : Nat) (o : PrO), ps[i]? = some o → ∃ nk nl, T[i + 1]? = some (.tup (.str nk :: nl)) ∧ (nk == "end") = false ∧ (nk == "punct") = false ∧ (nk == "open_ct") = false
  num : ∀ (i : Nat) (o : PrO), ps[i]? = some o → aget avs o.nm = some (.int o.num) ∧ 0 ≤ o.num ∧ (o.nm == "-") = false
  ent : ∀ (i : Nat) (o : PrO), ps[i]? = some o → aget kp o.num = some (.tup [.int o.lev, .str o.fix])
  fn : ∀ (i : Nat) (o : PrO), ps[i]? = some o → aget fkv [o.num, 1] = some (.int o.fn) ∧ 0 ≤ o.fn
  len : ps.length ≤ 100
section
variable {G : Gl} {p pn sym ops tk fr nu na co dx tl an fl fn od pt it st : Addr} {T : List AV} {avs : List (Str × AV)} {fkv : List (List Int × AV)} {kp ki ks : List (Int × AV)} {tok : Nat → Option Tk} {O : OpE} {S : Hp} {ps : List PrO}
theorem do_pre (I : IsG G) (P : PEnv tok O S p pn sym ops tk dx tl an fl fn od pt it st T avs fkv ki ks) (hpt : (pt, .dI kp) ∈ S) (E : PreEnv ps T avs fkv kp) {i : Nat} {o : PrO} (hi : ps[i]? = some o) {lim : Int} (hb : o.lev ≤ lim) {term : AV} {pr : Int} {L : List FmA} (hz : L.length ≤ 1000) {Q : AV → Hp → Prop}
    (q : ∀ x dx' il, Q (.int 0) (paSt p pn sym ops tk fr nu na co S (⟨⟨o.fn, o.lev, lim, none⟩, x, dx', il⟩ :: L) ((i + 1 : Nat) : Int) o.rgt term pr)) : CallOk G 8 (.ref 418) [.ref p] (paSt p pn sym ops tk fr nu na co S L (i : Int) lim term pr) Q := by
  obtain ⟨nk, nl, e1, e2, e3, e4⟩ := E.next _ _ hi
  obtain ⟨n1, n2, n3⟩ := E.num _ _ hi
  obtain ⟨f1, f2⟩ := E.fn _ _ hi
  have hl := (List.getElem?_eq_some_iff.mp hi).1
  have := E.len
  exact c_operand_pre I (FO := fo L) P.hp P.htk (by omega) (by omega) (by rw [show ((i : Int) + 1).toNat = i + 1 by omega]; exact e1) e2 e3 e4 (by rw [Int.toNat_natCast]; exact E.tok _ _ hi) P.ho P.hod P.hx P.hd P.hfn P.ha n1 n2 hpt (by rw [E.ent _ _ hi]; rfl) (by rw [frl_len]; exact hz) hb f1 f2 n3 q
theorem no_pre (I : IsG G) (P : PEnv tok O S p pn sym ops tk dx tl an fl fn od pt it st T avs fkv ki ks) (hpt : (pt, .dI kp) ∈ S) (E : PreEnv ps T avs fkv kp) {i : Nat} {o : PrO} (hi : ps[i]? = some o) {lim : Int} (hb : lim < o.lev) {term : AV} {pr : Int} {L : List FmA} {EQ : Addr → Hp → Prop}
    (q : ∀ dxe, EQ dxe ((dxe, .ns nmSF [some (.str "priority"), some (.int o.pos), some (.int 0), some (.int 0)]) :: S)) : CallR G 8 (.ref 418) [.ref p] (paSt p pn sym ops tk fr nu na co S L (i : Int) lim term pr) 51 EQ := by
  obtain ⟨nk, nl, e1, e2, e3, e4⟩ := E.next _ _ hi
  obtain ⟨n1, n2, n3⟩ := E.num _ _ hi
  have hl := (List.getElem?_eq_some_iff.mp hi).1
  have := E.len
  exact r_operand_pre I (FO := fo L) P.hp P.htk (by omega) (by omega) (by rw [show ((i : Int) + 1).toNat = i + 1 by omega]; exact e1) e2 e3 e4 (by rw [Int.toNat_natCast]; exact E.tok _ _ hi) P.ho P.hod P.hx P.hd P.ha n1 n2 hpt (by rw [E.ent _ _ hi]; rfl) hb n3 q
end
theorem c_parse2 {G : Gl} (I : IsG G) {p pn sym ops tk fr nu na co dx tl an fl fn od pt it st : Addr} {T : List AV} {avs : List (Str × AV)} {fkv : List (List Int × AV)} {kp ki ks : List (Int × AV)} {tok : Nat → Option Tk} {O : OpE} {S : Hp} {ps : List PrO} (P : PEnv tok O S p pn sym ops tk dx tl an fl fn od pt it st T avs fkv ki ks) (hpt : (pt, .dI kp) ∈ S) (E : PreEnv ps T avs fkv kp) {n : Nat} {most k0 : Int} {r : PSt} (hinf : ∀ j, O.inf j = false) (hk0 : tok ps.length = some (.int k0)) (hok : ∀ (i : Nat) (o : PrO), ps[i]? = some o → o.lev ≤ (preRun most (ps.take i)).1) (hr : Run tok O n ⟨ps.length + 1, (preRun most ps).1, .num k0, 0, (preRun most ps).2⟩ r) (hz : n + ps.length + 1 ≤ 900) {lim0 : Int} {Q : AV → Hp → Prop} (q : Q (.tup [r.term.av, .int r.pr]) (paSt p pn sym ops tk fr nu na co S [] r.pl r.lim r.term.av r.pr)) : CallOk G 10 (.ref 397) [.ref p, .int most] (paSt p pn sym ops tk fr nu na co S [] 0 lim0 .none 0) Q := by
  refine CallOk.go'' (n := 9) (ps := ["self", "most"]) (ls' := ["state"]) (gs := ["WANT_OPERAND", "DONE"]) (FnIn.lit (by rw [I.k]; walk_at "FN") (by conv => lhs; whnf)) I.g rfl ?_
  rintro X rfl hn ⟨l0, l1, l2, -⟩ ⟨g0, g1, -⟩
  have q_WANT_OPERAND := I.fs.gl.i_WANT_OPERAND
  have q_DONE := I.fs.gl.i_DONE
  have aFr_limit := I.fs.fr.a_limit
  have aFr_priority := I.fs.fr.a_priority
  have stFr := I.fs.fr.st
  have aPa_limit := I.fs.pa.a_limit
  have aPa_term := I.fs.pa.a_term
  have aPa_priority := I.fs.pa.a_priority
  have mPa_operand := I.fs.pa.m_operand
  have mPa_operator := I.fs.pa.m_operator
  have stPa := I.fs.pa.st
  dsimp only [padL, List.map, List.cons_append, List.nil_append, List.length_cons, List.length_nil, List.replicate, Nat.zero_add]
  obtain ⟨hp, htk, hx, hd, ha, hfn, ho, hod, hit, hst, -⟩ := id P
  have hkr := r.term.known
  have hlen := E.len
  walk_at "W"
  refine Xs.while (parI tok O p pn sym ops tk fr nu na co S ps most n r) ?_ (n + 1 + ps.length) (.pre 0 [] rfl (Nat.zero_le _) (by omega) rfl rfl rfl)
  rintro nn m σ (⟨s, L, rfl, hR, hfs, hL, rfl⟩ | ⟨rfl, hf, rfl⟩ | ⟨i, L, rfl, hi, rfl, hL1, hL2, rfl⟩)
  · walk_at "W"
    show Xs _ _ _ _ _ _
    walk_at "W"
    refine ifX_f rfl ?_
    walk_at "W"
    cases hR with
    | fin hb hf =>
      obtain rfl : L = [] := by simpa [hf] using hfs.symm
      refine Cl.fn' (op_blocked_done I P hb ?_) (le_n hn (by decide))
      walk_at "W"
      exact ⟨0, by omega, .fin rfl hf rfl⟩
    | @red n pl lim term pr f fs _ hb hR =>
      cases L with
      | nil => simp at hfs
      | cons g L =>
        simp only [List.map_cons, List.cons.injEq] at hfs
        obtain ⟨rfl, rfl⟩ := hfs
        refine Cl.fn' (op_blocked_red I P hb (by simp at hL; omega) ?_) (le_n hn (by decide))
        walk_at "W"
        exact ⟨n, by omega, .run _ L rfl hR rfl (by simp at hL; omega) rfl⟩
    | @shift n s j k _ hj hi h1 h2 hk hR => rw [hinf j] at hi; cases hi
    | @post n s j _ hj hi h1 h2 hR =>
      refine Cl.fn' (op_do_post I P hj hi h1 h2 ?_) (le_n hn (by decide))
      walk_at "W"
      exact ⟨n, by omega, .run _ L rfl hR hfs (by omega) rfl⟩
  · walk_at "W"
    show thenX _ _ _ _ _ _ _
    walk_at "W"
    exact q
  · walk_at "W"
    show Xs _ _ _ _ _ _
    walk_at "W"
    refine ifX_t rfl ?_
    walk_at "W"
    by_cases hlt : i < ps.length
    · obtain ⟨o, ho'⟩ : ∃ o, ps[i]? = some o := ⟨ps[i], List.getElem?_eq_getElem hlt⟩
      refine Cl.fn' (do_pre I P hpt E ho' (hok i o ho') (by omega) fun x dx' il => ?_) (le_n hn (by decide))
      walk_at "W"
      refine ⟨n + 1 + (ps.length - (i + 1)), Nat.add_lt_add_left (Nat.sub_lt_sub_left hlt (Nat.lt_succ_self i)) _, .pre (i + 1) (⟨⟨o.fn, o.lev, (preRun most (ps.take i)).1, none⟩, x, dx', il⟩ :: L) rfl hlt rfl ?_ ?_ ?_⟩
      · rw [preRun_succ ho', List.map_cons, hL1]; rfl
      · rw [List.length_cons, hL2]
      · rw [preRun_succ ho']; rfl
    · obtain rfl : i = ps.length := by omega
      rw [List.take_length] at hL1 ⊢
      obtain ⟨t1, pos, t2⟩ := P.toks _ _ hk0
      refine Cl.fn' (c_operand_int I (FO := fo L) (by walk_at "M") (by walk_at "M") (by omega) (by omega) (by simpa [tokAV] using t2) ?_) (le_n hn (by decide))
      walk_at "W"
      exact ⟨n, by omega, .run _ L rfl hr hL1.symm (by omega) rfl⟩
theorem r_parse2 {G : Gl} (I : IsG G) {p pn sym ops tk fr nu na co dx tl an fl fn od pt it st : Addr} {T : List AV} {avs : List (Str × AV)} {fkv : List (List Int × AV)} {kp ki ks : List (Int × AV)} {tok : Nat → Option Tk} {O : OpE} {S : Hp} {ps : List PrO} (P : PEnv tok O S p pn sym ops tk dx tl an fl fn od pt it st T avs fkv ki ks) (hpt : (pt, .dI kp) ∈ S) (E : PreEnv ps T avs fkv kp) {most : Int} {i0 : Nat} {o0 : PrO} (hi0 : ps[i0]? = some o0) (hok : ∀ (i : Nat) (o : PrO), i < i0 → ps[i]? = some o → o.lev ≤ (preRun most (ps.take i)).1) (hb : (preRun most (ps.take i0)).1 < o0.lev) {lim0 : Int} {EQ : Addr → Hp → Prop} (q : ∀ dxe, EQ dxe ((dxe, .ns nmSF [some (.str "priority"), some (.int o0.pos), some (.int 0), some (.int 0)]) :: S)) : CallR G 10 (.ref 397) [.ref p, .int most] (paSt p pn sym ops tk fr nu na co S [] 0 lim0 .none 0) 51 EQ := by
  refine CallR.go'' (n := 9) (ps := ["self", "most"]) (ls' := ["state"]) (gs := ["WANT_OPERAND", "DONE"]) (FnIn.lit (by rw [I.k]; walk_at "FN") (by conv => lhs; whnf)) I.g rfl ?_
  rintro X rfl hn p0 hp0 ⟨l0, l1, l2, -⟩ ⟨g0, g1, -⟩
  have q_WANT_OPERAND := I.fs.gl.i_WANT_OPERAND
  have q_DONE := I.fs.gl.i_DONE
  have aFr_limit := I.fs.fr.a_limit
  have aFr_priority := I.fs.fr.a_priority
  have stFr := I.fs.fr.st
  have aPa_limit := I.fs.pa.a_limit
  have aPa_term := I.fs.pa.a_term
  have aPa_priority := I.fs.pa.a_priority
  have mPa_operand := I.fs.pa.m_operand
  have mPa_operator := I.fs.pa.m_operator
  have stPa := I.fs.pa.st
  dsimp only [padL, List.map, List.cons_append, List.nil_append, List.length_cons, List.length_nil, List.replicate, Nat.zero_add]
  obtain ⟨hp, htk, hx, hd, ha, hfn, ho, hod, hit, hst, -⟩ := id P
  have hlen := E.len
  have hi0l := (List.getElem?_eq_some_iff.mp hi0).1
  walk_at "W"
  refine Xs.whileR hp0 (fun nn m σ => ∃ (i : Nat) (L : List FmA), i ≤ i0 ∧ nn = i0 - i ∧ m = [some (.ref p), some (.int most), some (.int 0)] ∧ L.length = i ∧ σ = paSt p pn sym ops tk fr nu na co S L i (preRun most (ps.take i)).1 .none 0) ?_ i0 ⟨0, [], by omega, by omega, rfl, rfl, rfl⟩
  rintro nn m σ ⟨i, L, hi, rfl, rfl, hL2, rfl⟩
  walk_at "W"
  show Xs _ _ _ _ _ _
  walk_at "W"
  refine ifX_t rfl ?_
  walk_at "W"
  by_cases hlt : i < i0
  · obtain ⟨o, ho'⟩ : ∃ o, ps[i]? = some o := ⟨ps[i], List.getElem?_eq_getElem (by omega)⟩
    refine Cl.fn' (do_pre I P hpt E ho' (hok i o hlt ho') (by omega) fun x dx' il => ?_) (le_n hn (by decide))
    walk_at "W"
    refine ⟨i0 - (i + 1), Nat.sub_lt_sub_left hlt (Nat.lt_succ_self i), i + 1, ⟨⟨o.fn, o.lev, (preRun most (ps.take i)).1, none⟩, x, dx', il⟩ :: L, hlt, rfl, rfl, by rw [List.length_cons, hL2], ?_⟩
    rw [preRun_succ ho']; rfl
  · obtain rfl : i = i0 := by omega
    exact Cl.fnR' hp0 (no_pre I P hpt E hi0 hb q) (le_n hn (by decide)) trivial
open PySem PySem.W PySem.Calls PyProof.Rows PySem.SeqAt
noncomputable def Dig (l : List Int) : Prop := ∀ x ∈ l, 0 ≤ x ∧ x < 96
theorem Dig.nil : Dig [] := fun x h => by simp at h
theorem Dig.snoc {l : List Int} (h : Dig l) (a : Int) : Dig (l ++ [a.fmod 96]) := by
  intro x hx
  rcases List.mem_append.mp hx with hx | hx
  · exact h x hx
  · obtain rfl : x = a.fmod 96 := by simpa using hx
    exact ⟨Int.fmod_nonneg_of_pos a (by decide), Int.fmod_lt_of_pos a (by decide)⟩
theorem div_pow {r : Int} {n : Nat} (h0 : 0 < r) (h : r < 96 ^ n) : ∃ k, n = k + 1 ∧ 0 ≤ r.fdiv 96 ∧ r.fdiv 96 < 96 ^ k := by
  cases n with
  | zero => simp at h; omega
  | succ k =>
    refine ⟨k, rfl, ?_, ?_⟩
    · rw [Int.fdiv_eq_ediv_of_nonneg _ (by decide)]; omega
    · rw [Int.fdiv_eq_ediv_of_nonneg _ (by decide)]
      rw [Int.pow_succ] at h
      omega
inductive figI (wl ra y : Addr) (wn : Nat) (ns : List Int) (σ : Hp) (i : Nat) (m : Loc) (σ' : Hp) : Prop
  | mk (digs : List Int) (c r : Option AV) : m = [some (.ref wl), some (.int wn), some (.ref ra), c, r] → σ' = (y, .list ((ns.map .int).take (wn : Int).toNat)) :: (ra, .list (digs.map .int)) :: σ → Dig digs → digs.length ≤ 30 * i → i ≤ 100 → figI wl ra y wn ns σ i m σ'
inductive figW (wl ra y : Addr) (wn : Nat) (ns : List Int) (σ : Hp) (i : Nat) (v : Int) (n : Nat) (m : Loc) (σ' : Hp) : Prop
  | mk (digs : List Int) (r : Int) : m = [some (.ref wl), some (.int wn), some (.ref ra), some (.int v), some (.int r)] → σ' = (y, .list ((ns.map .int).take (wn : Int).toNat)) :: (ra, .list (digs.map .int)) :: σ → Dig digs → digs.length + n ≤ 30 * i + 26 → 0 ≤ r → r < 96 ^ n → figW wl ra y wn ns σ i v n m σ'
inductive figQ (wl ra : Addr) (wn : Nat) (σ : Hp) (f : AF) (m : Loc) (σ' : Hp) : Prop
  | mk (y : Addr) (L : List AV) (digs : List Int) (c r : Option AV) : f = .next → m = [some (.ref wl), some (.int wn), some (.ref ra), c, r] → σ' = (y, .list L) :: (ra, .list (digs.map .int)) :: σ → Dig digs → digs.length ≤ 4000 → figQ wl ra wn σ f m σ'
theorem c_figures {G : Gl} (I : IsG G) {wl : Addr} {ns : List Int} {wn : Nat} {σ : Hp} {Q : AV → Hp → Prop} (hl : ∀ σ, LAt G σ wl (ns.map .int)) (hz : ns.length ≤ 100) (hw : wn ≤ 30) (q : ∀ z fg, fg.length = wn → Dig fg → Q (.ref z) ((z, .list (fg.map .int)) :: σ)) : CallOk G 4 (.ref 528) [.ref wl, .int wn] σ Q := by
  refine CallOk.go'' (n := 3) (ps := ["script", "wanted"]) (ls' := ["row", "cell", "rest"]) (gs := ["int", "len"]) (FnIn.lit (by rw [I.k]; walk_at "FN") (by conv => lhs; whnf)) I.g rfl ?_
  rintro X rfl hn ⟨l0, l1, l2, l3, l4, -⟩ ⟨g0, g1, -⟩
  have q_int := I.fs.gl.b_int
  have q_len := I.fs.gl.b_len
  dsimp only [padL, List.map, List.cons_append, List.nil_append, List.length_cons, List.length_nil, List.replicate, Nat.zero_add]
  refine Xs.weak ?_
  walk_at "W"
  intro ra _
  walk_at "W"
  refine Xs.mono (Q := figQ wl ra wn σ) ?_ ?_
  rotate_left
  · rintro f m' σ' ⟨y, L, digs, c, r, rfl, rfl, rfl, hd, hlen⟩
    walk_at "W"
    intro z1 _
    walk_at "W"
    refine Op2.rep (by walk_at "M") (by omega) (by omega) fun z2 => ?_
    refine Op2.cat (by walk_at "M") (by walk_at "M") (by simp; omega) fun z3 => ?_
    walk_at "W"
    refine ⟨z3, _, wn, rfl, rfl, by omega, .own (by walk_at "M"), by simp; omega, fun z4 => ?_⟩
    walk_at "W"
    refine ⟨_, .skip (.cut (.cut (.cut (.cut (.cut (.refl _)))))), ?_⟩
    have e : (List.map AV.int digs ++ List.replicate (wn : Int).toNat (AV.int 0)).take (wn : Int).toNat = ((digs ++ List.replicate wn (0 : Int)).take wn).map AV.int := by
      simp [List.map_take]
    rw [e]
    refine q z4 _ (by simp) fun x hx => ?_
    rcases List.mem_append.mp (List.mem_of_mem_take hx) with hx | hx
    · exact hd x hx
    · obtain ⟨-, rfl⟩ := List.mem_replicate.mp hx
      decide
  refine Xs.forList (by walk_at "L") (fun _ => rfl) ?_
  refine Ev.sliceTo ?_
  walk_at "W"
  refine ⟨wl, ns.map .int, wn, rfl, rfl, by omega, hl _, by simp; omega, fun y => ?_⟩
  refine ⟨y, _, rfl, .own (by walk_at "M"), figI wl ra y wn ns σ, ⟨[], _, _, rfl, rfl, .nil, by simp, by simp⟩, ?_, ?_, ?_⟩
  · rintro i m σ' ⟨digs, c, r, rfl, rfl, -⟩
    exact .own (by walk_at "M")
  · rintro i a m σ' ha ⟨digs, c, r, rfl, rfl, hd, hlen, hi⟩
    have hi2 := (List.getElem?_eq_some_iff.mp ha).1
    rw [List.length_take, List.length_map] at hi2
    obtain ⟨v, hv, rfl⟩ : ∃ v, True ∧ a = .int v := by
      have := List.mem_of_getElem? ha
      have := List.mem_of_mem_take this
      obtain ⟨v, _, rfl⟩ := List.mem_map.mp this
      exact ⟨v, trivial, rfl⟩
    refine ⟨_, .there (.there (.there .here)), ?_⟩
    walk_at "W"
    refine Op2.pow (by decide) (by decide) (by decide) ?_
    refine Op2.mod (by decide) ?_
    walk_at "W"
    refine Op2.mod (by decide) ?_
    walk_at "W"
    refine Cl.append (by walk_at "U") (by simp; omega) ?_
    walk_at "W"
    refine Xs.aug (by walk_at "L") (by walk_at "GA") ?_
    walk_at "W"
    refine Op2.ifdiv (by decide) (PyProof.noPylong_small (by decide)) ?_
    walk_at "W"
    have hb : 0 ≤ Int.fmod v (96 ^ Int.toNat 24) ∧ Int.fmod v (96 ^ Int.toNat 24) < 96 ^ 24 := ⟨Int.fmod_nonneg_of_pos v (by decide), Int.fmod_lt_of_pos v (by decide)⟩
    revert hb
    generalize Int.fmod v (96 ^ Int.toNat 24) = x
    intro hb
    have hq : 0 ≤ x.fdiv 96 ∧ x.fdiv 96 < 96 ^ 24 := by
      rw [Int.fdiv_eq_ediv_of_nonneg _ (by decide)]
      obtain ⟨h1, h2⟩ := hb
      constructor <;> omega
    refine Xs.while (figW wl ra y wn ns σ i v) ?_ 24 ⟨digs ++ [x.fmod 96], x.fdiv 96, rfl, by simp, hd.snoc x, by simp; omega, hq.1, hq.2⟩
    rintro n m σ' ⟨digs', r', rfl, rfl, hd', hlen', hr1, hr2⟩
    walk_at "W"
    by_cases hpos : 0 < r'
    · rw [decide_eq_true hpos]
      obtain ⟨k, rfl, hk1, hk2⟩ := div_pow hpos hr2
      show Xs _ _ _ _ _ _
      walk_at "W"
      refine Op2.mod (by decide) ?_
      walk_at "W"
      refine Cl.append (by walk_at "U") (by simp; omega) ?_
      walk_at "W"
      refine Xs.aug (by walk_at "L") (by walk_at "GA") ?_
      walk_at "W"
      refine Op2.ifdiv (by decide) (PyProof.noPylong_small (by decide)) ?_
      walk_at "W"
      exact ⟨k, by omega, digs' ++ [r'.fmod 96], _, rfl, by simp, hd'.snoc r', by simp; omega, hk1, hk2⟩
    · rw [decide_eq_false hpos]
      show thenX _ _ _ _ _ _ _
      walk_at "W"
      refine Cl.len (by walk_at "M") (by simp; omega) ?_
      walk_at "W"
      refine ifX_c (fun hc => ?_) (fun hc => ?_)
      · walk_at "W"
        exact ⟨y, _, digs', _, _, rfl, rfl, rfl, hd', by omega⟩
      · walk_at "W"
        exact ⟨digs', _, _, rfl, rfl, hd', by omega, by omega⟩
  · rintro m σ' ⟨digs, c, r, rfl, rfl, hd, hlen, hi⟩
    exact ⟨y, _, digs, _, _, rfl, rfl, rfl, hd, by omega⟩
noncomputable def hasY (fx : Str) : Bool := Txt.contains fx "y"
noncomputable def bnd2 (lv : Int) (fx : Str) : Int := if hasY fx = true then lv else lv - 1
noncomputable def isU (x : Str) : Bool := [AV.str "u", .str "v", .str "w"].any fun y => y.eqv (.str x)
theorem c_bound2 {G : Gl} (I : IsG G) {lv : Int} {fx : Str} {σ : Hp} {Q : AV → Hp → Prop} (q : Q (.int (bnd2 lv fx)) σ) : CallOk G 2 (.ref 535) [.tup [.int lv, .str fx]] σ Q := by
  refine CallOk.go'' (n := 1) (ps := ["entry"]) (ls' := ["level", "fix"]) (gs := []) (FnIn.lit (by rw [I.k]; walk_at "FN") (by conv => lhs; whnf)) I.g rfl ?_
  rintro X rfl hn ⟨l0, l1, l2, -⟩ -
  dsimp only [padL, List.map, List.cons_append, List.nil_append, List.length_cons, List.length_nil, List.replicate, Nat.zero_add]
  unfold bnd2 hasY at q
  walk_at "W"
  refine Op2.inStr ?_
  walk_at "W"
  refine ifE_c (fun h => ?_) (fun h => ?_)
  · rw [if_pos h] at q
    walk_at "W"
    exact q
  · rw [if_neg (by rw [h]; decide)] at q
    walk_at "W"
    exact q
structure PeelE (O : OpE) (P B : List Nat) (kvs : List (Int × AV)) (evs : List (Str × AV)) : Prop where
  pre : ∀ j ∈ P, aget kvs (O.fn j) = some (.str (O.nm j)) ∧ (O.nm j == "") = false ∧ aget evs (O.nm j) = some (.tup [.int (O.lev j), .str (O.fix j)]) ∧ bnd2 (O.lev j) (O.fix j) = O.rgt j ∧ isU (O.nm j) = true
  post : ∀ j ∈ B, aget kvs (O.fn j) = some (.str (O.nm j)) ∧ (O.nm j == "") = false ∧ aget evs (O.nm j) = some (.tup [.int (O.lev j), .str (O.fix j)]) ∧ bnd2 (O.lev j) (O.fix j) = O.lft j ∧ isU (O.nm j) = false
inductive Peel (O : OpE) (P B : List Nat) (kvs : List (Int × AV)) (evs : List (Str × AV)) (i o : Nat) (t : Tr) (p : Int) : Prop
  | num : t = .num 5 → i = 0 → o = 0 → Peel O P B kvs evs i o t p
  | un (j : Nat) (t1 : Tr) (p1 : Int) (i1 o1 : Nat) (b : Bool) : t = .un (O.fn j) t1 → p = O.lev j → Bt O P B i1 o1 t1 p1 → p1 ≤ bnd2 (O.lev j) (O.fix j) → i1 + o1 < i + o → aget kvs (O.fn j) = some (.str (O.nm j)) → (O.nm j == "") = false → aget evs (O.nm j) = some (.tup [.int (O.lev j), .str (O.fix j)]) → isU (O.nm j) = b →
      ((b = true ∧ i = i1 + 1 ∧ o = o1 ∧ (P.take i).reverse.map O.nm = O.nm j :: (P.take i1).reverse.map O.nm) ∨ (b = false ∧ i = i1 ∧ o = o1 + 1 ∧ (B.take o).reverse.map O.nm = O.nm j :: (B.take o1).reverse.map O.nm)) → Peel O P B kvs evs i o t p
theorem Bt.peel {O : OpE} {P B : List Nat} {kvs : List (Int × AV)} {evs : List (Str × AV)} (E : PeelE O P B kvs evs) {i o : Nat} {t : Tr} {p : Int} (h : Bt O P B i o t p) : Peel O P B kvs evs i o t p := by
  cases h with
  | num => exact .num rfl rfl rfl
  | pre bt hj hp =>
    obtain ⟨k1, k2, k3, k4, k5⟩ := E.pre _ (List.mem_of_getElem? hj)
    exact .un _ _ _ _ _ true rfl rfl bt (by rw [k4]; exact hp) (by omega) k1 k2 k3 k5 (.inl ⟨rfl, rfl, rfl, by rw [List.take_add_one, hj]; simp⟩)
  | post bt hj hp =>
    obtain ⟨k1, k2, k3, k4, k5⟩ := E.post _ (List.mem_of_getElem? hj)
    exact .un _ _ _ _ _ false rfl rfl bt (by rw [k4]; exact hp) (by omega) k1 k2 k3 k5 (.inr ⟨rfl, rfl, rfl, by rw [List.take_add_one, hj]; simp⟩)
inductive pwI (O : OpE) (P B : List Nat) (kd en rw tl : Addr) (most p : Int) (i o : Nat) (σ : Hp) (n : Nat) (m : Loc) (σ' : Hp) : Prop
  | mk (i' o' : Nat) (t' : Tr) (p' b lv : Int) (R T : List Str) (nm : Option AV) : m = [some t'.av, some (.int most), some (.ref kd), some (.ref en), some (.int lv), some (.int b), some (.ref rw), some (.ref tl), nm] →
  σ' = (tl, .list (T.map .str)) :: (rw, .list (R.map .str)) :: σ → Bt O P B i' o' t' p' → p' ≤ b → n = i' + o' → i' + o' + R.length + T.length ≤ 100 → (P.take i).reverse.map O.nm = R ++ (P.take i').reverse.map O.nm → (B.take o).reverse.map O.nm = T ++ (B.take o').reverse.map O.nm →
  (R = [] ∧ T = [] ∧ lv = 0 ∧ p' = p ∨ ¬ (R = [] ∧ T = []) ∧ lv = p) → pwI O P B kd en rw tl most p i o σ n m σ'
inductive pwQ (m₀ : Loc) (σ₀ : Hp) (f : AF) (m' : Loc) (σ' : Hp) : Prop
  | mk : f = AF.next → σ' = σ₀ → m' = m₀ → pwQ m₀ σ₀ f m' σ'
theorem pls_strs (l : List Str) : pls 0 (l.map .str) = true := by
  induction l with
  | nil => rfl
  | cons a l ih => simp only [List.map_cons, pls, AV.pl, Bool.true_and]; exact ih
theorem eq_nil_strs (l : List Str) : eqvs (l.map .str) [] = l.isEmpty := by cases l <;> simp [eqvs]
theorem c_peeled {G : Gl} (I : IsG G) {O : OpE} {P B : List Nat} {kvs : List (Int × AV)} {evs : List (Str × AV)} {kd en : Addr} {most : Int} {σ : Hp} {Q : AV → Hp → Prop} (hk : (kd, .dI kvs) ∈ σ) (he : (en, .dS evs) ∈ σ) (E : PeelE O P B kvs evs) {i o : Nat} {t : Tr} {p : Int} (bt : Bt O P B i o t p) (hp : p ≤ most) (hz : i + o ≤ 100) (q : ∀ z, Q (.tup [.ref z, .int p]) ((z, .list (((P.take i).reverse.map fun j => AV.str (O.nm j)) ++ [(Tr.num 5).av] ++ (B.take o).map fun j => AV.str (O.nm j))) :: σ)) : CallOk G 5 (.ref 549) [t.av, .int most, .ref kd, .ref en] σ Q := by
  refine CallOk.go'' (n := 4) (ps := ["term", "most", "kinds", "entries"]) (ls' := ["level", "bound", "row", "tail", "name"]) (gs := ["_law_bound"]) (FnIn.lit (by rw [I.k]; walk_at "FN") (by conv => lhs; whnf)) I.g rfl ?_
  rintro X rfl hn ⟨l0, l1, l2, l3, l4, l5, l6, l7, l8, -⟩ ⟨g0, -⟩
  have q__law_bound := I.fs.gl.f_law_bound
  dsimp only [padL, List.map, List.cons_append, List.nil_append, List.length_cons, List.length_nil, List.replicate, Nat.zero_add]
  refine Xs.weak ?_
  walk_at "W"
  intro rw _
  walk_at "W"
  intro tl _
  walk_at "W"
  refine Xs.while (pwI O P B kd en rw tl most p i o σ) ?_ (i + o) ⟨i, o, t, p, most, 0, [], [], none, rfl, rfl, bt, hp, rfl, by simpa using hz, rfl, rfl, .inl ⟨rfl, rfl, rfl, rfl⟩⟩
  rintro n m σ' ⟨i', o', t', p', b, lv, R, T, nm, rfl, rfl, bt', hb, rfl, hlen, hR, hT, hlv⟩
  rcases bt'.peel E with ⟨rfl, rfl, rfl⟩ | ⟨j1, t1, p1, i1, o1, u, rfl, rfl, bt1, hpb, hm, k1, k2, k3, k5, hu⟩
  · dsimp only [Tr.av]
    walk_at "W"
    rw [show (("i" : Str) == "s") = false from by decide]
    show thenX _ _ _ _ _ _ _
    walk_at "W"
    refine mthRev (by walk_at "M") ?_
    walk_at "W"
    refine Cl.reverse (by walk_at "U") (by simp; omega) ?_
    walk_at "W"
    intro x _
    refine Op2.cat (by walk_at "M") (by walk_at "M") (by simp; omega) fun z => ?_
    walk_at "W"
    refine Op2.cat (by walk_at "M") (by walk_at "M") (by simp; omega) fun z2 => ?_
    walk_at "W"
    have e1 : lv = p := by
      have h0 : p' = 0 := by cases bt'; rfl
      rcases hlv with ⟨-, -, h1, h2⟩ | ⟨-, h⟩ <;> omega
    have e2 : R = (P.take i).reverse.map O.nm := by rw [hR]; simp
    have e3 : T = (B.take o).reverse.map O.nm := by rw [hT]; simp
    subst e1
    refine ⟨_, .skip (.cut (.cut (.cut (.cut (.refl _))))), ?_⟩
    have := q z2
    rw [e2, e3]
    show Q (AV.tup [AV.ref z2, AV.int lv]) _
    simpa [Tr.av, List.map_map, Function.comp_def] using this
  · dsimp only [Tr.av]
    walk_at "W"
    rw [show (("s" : Str) == "s") = true from by decide]
    show Xs _ _ _ _ _ _
    refine Xs.weak ?_
    walk_at "W"
    rw [k1, Option.getD_some]
    walk_at "W"
    refine orX_f k2 ?_
    walk_at "W"
    refine Op2.itDS rfl (by omega) (by walk_at "M") k3 ?_
    walk_at "W"
    refine orX_f (decide_eq_false (by omega)) ?_
    walk_at "W"
    refine ifX_f rfl ?_
    refine Xs.nil ?_
    refine thenX_n ?_
    refine Xs.cons ?_
    refine Xs.mono (Q := pwQ [some (AV.tup [.str "s", .int (O.fn j1), .tup [t1.av]]), some (.int most), some (.ref kd), some (.ref en), some (.int p), some (.int b), some (.ref rw), some (.ref tl), some (.str (O.nm j1))] ((tl, .list (T.map .str)) :: (rw, .list (R.map .str)) :: σ)) (Xs.weak ?_) ?_
    · walk_at "W"
      intro x1 _
      refine Op2.eqL (by walk_at "M") (by walk_at "M") (pls_strs R) (k := 0) rfl (by omega) ?_
      rw [eq_nil_strs]
      walk_at "W"
      by_cases hR0 : R = []
      · by_cases hT0 : T = []
        · subst hR0 hT0
          refine andX_t rfl ?_
          walk_at "W"
          intro x2 _
          refine Op2.eqL (by walk_at "M") (by walk_at "M") (n := 0) (k := 0) rfl rfl (by omega) ?_
          walk_at "W"
          refine andX_t rfl ?_
          walk_at "W"
          refine ifX_t rfl ?_
          walk_at "W"
          refine Op2.itDS rfl (by omega) (by walk_at "M") k3 ?_
          walk_at "W"
          have e1 : O.lev j1 = p := by rcases hlv with ⟨-, -, -, h2⟩ | ⟨h, -⟩; exact h2; exact absurd ⟨rfl, rfl⟩ h
          exact ⟨_, .cut (.cut (.refl _)), rfl, rfl, by rw [e1]⟩
        · subst hR0
          have e1 : lv = p := by rcases hlv with ⟨-, h, -⟩ | ⟨-, h⟩; exact absurd h hT0; exact h
          refine andX_t rfl ?_
          walk_at "W"
          intro x2 _
          refine Op2.eqL (by walk_at "M") (by walk_at "M") (pls_strs T) (k := 0) rfl (by omega) ?_
          rw [eq_nil_strs]
          walk_at "W"
          refine andX_f (by simpa using hT0) ?_
          refine ifX_f rfl ?_
          walk_at "W"
          exact ⟨_, .cut (.cut (.refl _)), rfl, rfl, by rw [e1]⟩
      · have e1 : lv = p := by rcases hlv with ⟨h, -⟩ | ⟨-, h⟩; exact absurd h hR0; exact h
        refine andX_f (by simpa using hR0) ?_
        refine ifX_f rfl ?_
        walk_at "W"
        exact ⟨_, .cut (.refl _), rfl, rfl, by rw [e1]⟩
    · rintro f m' σ' ⟨rfl, rfl, rfl⟩
      walk_at "W"
      refine Op2.inT (n := 0) (n' := 0) rfl rfl (by omega) k5 ?_
      walk_at "W"
      refine ifX_c (fun e => ?_) (fun e => ?_)
      · obtain ⟨-, rfl, rfl, hP⟩ : u = true ∧ i' = i1 + 1 ∧ o' = o1 ∧ (P.take i').reverse.map O.nm = O.nm j1 :: (P.take i1).reverse.map O.nm := by
          rcases hu with h | ⟨h, -⟩
          · exact h
          · rw [e] at h; cases h
        walk_at "W"
        refine Cl.append (by walk_at "U") (by simp; omega) ?_
        walk_at "W"
        refine Op2.itDS rfl (by omega) (by walk_at "M") k3 ?_
        walk_at "W"
        refine Cl.fn' (c_bound2 I ?_) (le_n hn (by decide))
        walk_at "W"
        refine ⟨_, .refl _, i1 + o', by omega, ⟨i1, o', t1, p1, _, p, R ++ [O.nm j1], T, _, rfl, by simp, bt1, hpb, rfl, by simp; omega, ?_, hT, .inr ⟨by simp, rfl⟩⟩⟩
        rw [hR, hP]; simp
      · obtain ⟨-, rfl, rfl, hB⟩ : u = false ∧ i' = i1 ∧ o' = o1 + 1 ∧ (B.take o').reverse.map O.nm = O.nm j1 :: (B.take o1).reverse.map O.nm := by
          rcases hu with ⟨h, -⟩ | h
          · rw [e] at h; cases h
          · exact h
        walk_at "W"
        refine Cl.append (by walk_at "U") (by simp; omega) ?_
        walk_at "W"
        refine Op2.itDS rfl (by omega) (by walk_at "M") k3 ?_
        walk_at "W"
        refine Cl.fn' (c_bound2 I ?_) (le_n hn (by decide))
        walk_at "W"
        refine ⟨_, .refl _, i' + o1, by omega, ⟨i', o1, t1, p1, _, p, R, T ++ [O.nm j1], _, rfl, by simp, bt1, hpb, rfl, by simp; omega, hR, ?_, .inr ⟨by simp, rfl⟩⟩⟩
        rw [hT, hB]; simp
open PySem PySem.W PySem.Calls PyProof.Rows PySem.SeqAt
theorem aget_put {κ : Type} [DecidableEq κ] {kvs : List (κ × AV)} {k k' : κ} {v : AV} (h : aget kvs k = none) : aget (aput kvs k v) k' = if k' = k then some v else aget kvs k' := by
  have hk : k ∉ kvs.map (·.1) := by
    intro q
    obtain ⟨x, hx, e⟩ := List.mem_map.mp q
    unfold aget at h
    rw [Option.map_eq_none_iff, List.find?_eq_none] at h
    exact h x hx (by simp [e])
  rw [aput_new hk]
  unfold aget
  rw [List.find?_append]
  by_cases e : k' = k
  · subst e
    have : List.find? (fun kv => decide (kv.1 = k')) kvs = none := by
      rw [List.find?_eq_none]; intro x hx q; exact hk (by have : x.1 = k' := by simpa using q
                                                          rw [← this]; exact List.mem_map_of_mem hx)
    rw [this]; simp
  · simp [e, Ne.symm e]
theorem nat_pair {a b c d : Nat} (h : ([(a : Int), (b : Int)] : List Int) = [(c : Int), (d : Int)]) : a = c ∧ b = d := by
  simp at h; exact ⟨by omega, by omega⟩
theorem Tab.len {kvs : List (List Int × AV)} {k : List Int} {v : AV} (h : aget kvs k = none) : (aput kvs k v).length = kvs.length + 1 := by
  have hk : k ∉ kvs.map (·.1) := by
    intro q
    obtain ⟨x, hx, e⟩ := List.mem_map.mp q
    unfold aget at h
    rw [Option.map_eq_none_iff, List.find?_eq_none] at h
    exact h x hx (by simp [e])
  rw [aput_new hk]; simp
noncomputable def IsB (O : OpE) (P B : List Nat) (i o : Nat) : Option Int → Prop
  | some p => V O P B i o p ∧ ∀ q, V O P B i o q → p ≤ q
  | none => ∀ q, ¬ V O P B i o q
theorem ss1 {n k : Nat} (h : k < n) : n - 1 - (n - (k + 1)) = k := by omega
theorem ss2 {n i : Nat} (h : i < n) : n - (n - 1 - i) = i + 1 := by omega
theorem ss3 {n i : Nat} (h : i < n) : n - (i + 1) + 1 = n - i := by omega
theorem V.zero_ {O : OpE} {P B : List Nat} {p : Int} : V O P B 0 0 p ↔ p = 0 := by
  constructor
  · rintro ⟨t, h⟩; cases h; rfl
  · rintro rfl; exact ⟨_, .num⟩
noncomputable def A1 (O : OpE) (P B : List Nat) (i o : Nat) (x : Int) : Prop := ∃ i' j p, i = i' + 1 ∧ P[i']? = some j ∧ V O P B i' o p ∧ p ≤ O.rgt j ∧ x = O.lev j
noncomputable def A2 (O : OpE) (P B : List Nat) (i o : Nat) (x : Int) : Prop := ∃ o' j p, o = o' + 1 ∧ B[o']? = some j ∧ V O P B i o' p ∧ p ≤ O.lft j ∧ x = O.lev j
noncomputable def A12 (O : OpE) (P B : List Nat) (i o : Nat) (x : Int) : Prop := A1 O P B i o x ∨ A2 O P B i o x
theorem V.step_ {O : OpE} {P B : List Nat} {i o : Nat} {p : Int} (h : ¬ (i = 0 ∧ o = 0)) : V O P B i o p ↔ A1 O P B i o p ∨ A2 O P B i o p := by
  constructor
  · rintro ⟨t, b⟩
    cases b with
    | num => exact absurd ⟨rfl, rfl⟩ h
    | pre b h1 h2 => exact .inl ⟨_, _, _, rfl, h1, ⟨_, b⟩, h2, rfl⟩
    | post b h1 h2 => exact .inr ⟨_, _, _, rfl, h1, ⟨_, b⟩, h2, rfl⟩
  · rintro (⟨i', j, q, rfl, h1, ⟨t, b⟩, h2, rfl⟩ | ⟨o', j, q, rfl, h1, ⟨t, b⟩, h2, rfl⟩)
    · exact ⟨_, .pre b h1 h2⟩
    · exact ⟨_, .post b h1 h2⟩
noncomputable def G2T (O : OpE) (P B : List Nat) (kvs : List (List Int × AV)) (i o : Nat) : Prop := ∀ a b : Nat,
  ((a = 0 ∧ b = 0) ∨ (a < i ∨ (a = i ∧ b < o)) → a ≤ P.length → b ≤ B.length → ∃ x : Option Int, aget kvs [(a : Int), (b : Int)] = x.map AV.int ∧ IsB O P B a b x) ∧
  (¬ (a = 0 ∧ b = 0) → ¬ (a < i ∨ (a = i ∧ b < o)) → aget kvs [(a : Int), (b : Int)] = none)
section
variable {O : OpE} {P B : List Nat} {kvs : List (List Int × AV)} {i o : Nat}
theorem G2T.get (t : G2T O P B kvs i o) {a b : Nat} (h : (a = 0 ∧ b = 0) ∨ (a < i ∨ (a = i ∧ b < o))) (h1 : a ≤ P.length) (h2 : b ≤ B.length) :
    ∃ v, (aget kvs [(a : Int), (b : Int)]).getD (.int 9999) = .int v ∧ ∀ x, x < 9999 → (v ≤ x ↔ ∃ p, V O P B a b p ∧ p ≤ x) := by
  obtain ⟨x, e, hb⟩ := (t a b).1 h h1 h2
  cases x with
  | some p => exact ⟨p, by rw [e]; rfl, fun x _ => ⟨fun h => ⟨p, hb.1, h⟩, fun ⟨q, hq, h⟩ => Int.le_trans (hb.2 q hq) h⟩⟩
  | none => exact ⟨9999, by rw [e]; rfl, fun x hx => ⟨fun h => by omega, fun ⟨q, hq, h⟩ => (hb q hq).elim⟩⟩
theorem G2T.zero : G2T O P B [([0, 0], .int 0)] 0 0 := fun a b => by
  constructor
  · intro h _ _
    obtain ⟨rfl, rfl⟩ : a = 0 ∧ b = 0 := by omega
    exact ⟨some 0, rfl, V.zero_.mpr rfl, fun q hq => by rw [V.zero_.mp hq]; exact Int.le_refl _⟩
  · intro h _
    refine aget_none ?_
    intro q
    have : ([(a : Int), (b : Int)] : List Int) = [0, 0] := by simpa using q
    simp at this; omega
theorem G2T.next (t : G2T O P B kvs i (B.length + 1)) : G2T O P B kvs (i + 1) 0 := fun a b =>
  ⟨fun h h1 h2 => (t a b).1 (by omega) h1 h2, fun h h' => (t a b).2 h (by omega)⟩
theorem G2T.put {p : Int} (t : G2T O P B kvs i o) (hn : ¬ (i = 0 ∧ o = 0)) (h : IsB O P B i o (some p)) : G2T O P B (aput kvs [(i : Int), (o : Int)] (.int p)) i (o + 1) := fun a b => by
  rw [aget_put ((t i o).2 hn (by omega))]
  by_cases e : ([(a : Int), (b : Int)] : List Int) = [(i : Int), (o : Int)]
  · obtain ⟨rfl, rfl⟩ := nat_pair e
    rw [if_pos rfl]
    exact ⟨fun _ _ _ => ⟨some p, rfl, h⟩, fun _ q => by omega⟩
  · rw [if_neg e]
    have hne : ¬ (a = i ∧ b = o) := fun ⟨h1, h2⟩ => e (by rw [h1, h2])
    exact ⟨fun h h1 h2 => (t a b).1 (by omega) h1 h2, fun h q => (t a b).2 h (by omega)⟩
theorem G2T.skip (t : G2T O P B kvs i o) (h : ¬ (i = 0 ∧ o = 0) → IsB O P B i o none) : G2T O P B kvs i (o + 1) := fun a b => by
  by_cases e : a = i ∧ b = o
  · obtain ⟨rfl, rfl⟩ := e
    by_cases hz : a = 0 ∧ b = 0
    · exact ⟨fun _ h1 h2 => (t a b).1 (.inl hz) h1 h2, fun q => absurd hz q⟩
    · exact ⟨fun _ _ _ => ⟨none, (t a b).2 hz (by omega), h hz⟩, fun _ q => by omega⟩
  · exact ⟨fun h h1 h2 => (t a b).1 (by omega) h1 h2, fun h q => (t a b).2 h (by omega)⟩
end
inductive gI (O : OpE) (P B : List Nat) (fa ba gr : Addr) (σ : Hp) (i : Nat) (m : Loc) (σ' : Hp) : Prop
  | mk (kvs : List (List Int × AV)) (n u f e : Option AV) : m = [some (.ref fa), some (.ref ba), some (.ref gr), n, u, f, e] → σ' = (gr, .dT kvs) :: σ → G2T O P B kvs i 0 → kvs.length ≤ 1 + i * 101 → gI O P B fa ba gr σ i m σ'
inductive gJ (O : OpE) (P B : List Nat) (fa ba gr : Addr) (σ : Hp) (i o : Nat) (m : Loc) (σ' : Hp) : Prop
  | mk (kvs : List (List Int × AV)) (u f e : Option AV) : m = [some (.ref fa), some (.ref ba), some (.ref gr), some (.int i), u, f, e] → σ' = (gr, .dT kvs) :: σ → G2T O P B kvs i o → kvs.length ≤ 1 + i * 101 + o → gJ O P B fa ba gr σ i o m σ'
inductive gQ (fa ba gr fd : Addr) (σ : Hp) (i o k : Nat) (T : Int → Prop) (f : AF) (m' : Loc) (σ' : Hp) : Prop
  | mk (e : Option AV) (fs : List Int) : f = .next → m' = [some (.ref fa), some (.ref ba), some (.ref gr), some (.int i), some (.int o), some (.ref fd), e] → σ' = (fd, .list (fs.map .int)) :: σ → fs.length ≤ k → (∀ x, x ∈ fs ↔ T x) → gQ fa ba gr fd σ i o k T f m' σ'
structure GrE (O : OpE) (P B : List Nat) : Prop where
  pre : ∀ j ∈ P, bnd2 (O.lev j) (O.fix j) = O.rgt j ∧ O.rgt j < 9999
  post : ∀ j ∈ B, bnd2 (O.lev j) (O.fix j) = O.lft j ∧ O.lft j < 9999
theorem c_grid {G : Gl} (I : IsG G) {O : OpE} {P B : List Nat} {fa ba : Addr} {σ : Hp} {Q : AV → Hp → Prop} (hP : P.length ≤ 100) (hB : B.length ≤ 100) (E : GrE O P B) (hfa : (fa, .list (P.reverse.map O.ent)) ∈ σ) (hba : (ba, .list (B.map O.ent)) ∈ σ)
  (q : ∀ z kvs, G2T O P B kvs (P.length + 1) 0 → Q (.ref z) ((z, .dT kvs) :: σ)) : CallOk G 5 (.ref 542) [.ref fa, .ref ba] σ Q := by
  refine CallOk.go'' (n := 4) (ps := ["fronts", "backs"]) (ls' := ["grid", "inner", "outer", "found", "entry"]) (gs := ["range", "len", "_law_bound", "min"]) (FnIn.lit (by rw [I.k]; walk_at "FN") (by conv => lhs; whnf)) I.g rfl ?_
  rintro X rfl hn ⟨l0, l1, l2, l3, l4, l5, l6, -⟩ ⟨g0, g1, g2, g3, -⟩
  have q_range := I.fs.gl.b_range
  have q_len := I.fs.gl.b_len
  have q__law_bound := I.fs.gl.f_law_bound
  have q_min := I.fs.gl.b_min
  dsimp only [padL, List.map, List.cons_append, List.nil_append, List.length_cons, List.length_nil, List.replicate, Nat.zero_add]
  walk_at "W"
  refine Ev.dictT1 (by omega) fun gr => ?_
  walk_at "W"
  refine ⟨[0, 0], _, rfl, .here, ?_⟩
  walk_at "W"
  refine Xs.forN (by walk_at "L") (fun _ => rfl) ?_
  walk_at "W"
  refine Cl.len (by walk_at "M") (by simp; omega) ?_
  rw [List.length_map, List.length_reverse]
  walk_at "W"
  refine Cl.range1 fun rg => ?_
  refine ⟨rg, _, P.length + 1, gI O P B fa ba gr σ, rfl, rfl, by omega, ⟨_, _, _, _, _, rfl, rfl, .zero, by simp⟩, ?_, ?_⟩
  · rintro i m σ' hi ⟨kvs, n, u, f, e, rfl, rfl, ht, hlen⟩
    have hi' : i ≤ P.length := Nat.le_of_lt_succ hi
    refine ⟨_, .there (.there (.there .here)), ?_⟩
    walk_at "W"
    refine Xs.forN (by walk_at "L") (fun _ => rfl) ?_
    walk_at "W"
    refine Cl.len (by walk_at "M") (by simp; omega) ?_
    rw [List.length_map]
    walk_at "W"
    refine Cl.range1 fun rg2 => ?_
    refine ⟨rg2, _, B.length + 1, gJ O P B fa ba gr σ i, rfl, rfl, by omega, ⟨kvs, _, _, _, rfl, rfl, ht, hlen⟩, ?_, ?_⟩
    · clear ht hlen kvs
      rintro o m σ' ho ⟨kvs, u, f, e, rfl, rfl, ht, hlen⟩
      have ho' : o ≤ B.length := Nat.le_of_lt_succ ho
      refine ⟨_, .there (.there (.there (.there .here))), ?_⟩
      refine Xs.weak ?_
      walk_at "S"
      walk_at "S"
      walk_at "W"
      intro fd _
      iterate 2 walk_at "S"
      refine Xs.cons (Xs.mono (Q := gQ fa ba gr fd ((gr, .dT kvs) :: σ) i o 1 (A1 O P B i o)) ?_ ?_)
      · walk_at "W"
        refine ifX_c (fun h => ?_) (fun h => ?_)
        · have h : 0 < i := by simpa using h
          obtain ⟨k, rfl⟩ : ∃ k, i = k + 1 := ⟨i - 1, by omega⟩
          obtain ⟨j, hj⟩ : ∃ j, P[k]? = some j := ⟨_, List.getElem?_eq_getElem (by omega)⟩
          obtain ⟨e1, e2⟩ := E.pre j (List.mem_of_getElem? hj)
          have hrev : (P.reverse.map O.ent)[P.length - (k + 1)]? = some (AV.tup [.int (O.lev j), .str (O.fix j)]) := by
            rw [List.getElem?_map, List.getElem?_reverse (by omega), show P.length - 1 - (P.length - (k + 1)) = k from ss1 (Nat.lt_of_succ_lt_succ hi), hj]; rfl
          walk_at "W"
          refine Cl.len (by walk_at "M") (by simp; omega) ?_
          rw [List.length_map, List.length_reverse]
          walk_at "W"
          refine Op2.itList rfl (by walk_at "M") (by omega) (by omega) (by rw [show ((P.length : Int) - ((k + 1 : Nat) : Int)).toNat = P.length - (k + 1) from Int.toNat_sub _ _]; exact hrev) ?_
          walk_at "W"
          rw [show ((k + 1 : Nat) : Int) - 1 = (k : Int) by omega]
          obtain ⟨v, hv1, hv2⟩ := ht.get (a := k) (b := o) (by omega) (by omega) ho'
          rw [hv1]
          walk_at "W"
          refine Cl.fn' (c_bound2 I ?_) (le_n hn (by decide))
          rw [e1]
          walk_at "W"
          have hv := hv2 (O.rgt j) e2
          refine ifX_c (fun h => ?_) (fun h => ?_)
          · obtain ⟨p, hp1, hp2⟩ := hv.mp (by simpa using h)
            walk_at "W"
            refine Cl.append (by walk_at "U") (by simp) ?_
            walk_at "W"
            refine ⟨_, [O.lev j], rfl, rfl, rfl, by simp, fun x => ?_⟩
            constructor
            · intro hx
              exact ⟨k, j, p, rfl, hj, hp1, hp2, by simpa using hx⟩
            · rintro ⟨k', j', p', h1, h2, h3, h4, rfl⟩
              obtain rfl : k' = k := by omega
              rw [hj] at h2; cases h2; simp
          · have hno : ¬ v ≤ O.rgt j := by simpa using h
            walk_at "W"
            refine ⟨_, [], rfl, rfl, rfl, by simp, fun x => ?_⟩
            constructor
            · intro hx; simp at hx
            · rintro ⟨k', j', p', h1, h2, h3, h4, rfl⟩
              obtain rfl : k' = k := by omega
              rw [hj] at h2; cases h2
              exact absurd (hv.mpr ⟨p', h3, h4⟩) hno
        · have h : i = 0 := by simp at h; omega
          walk_at "W"
          refine ⟨_, [], rfl, rfl, rfl, by simp, fun x => ?_⟩
          constructor
          · intro hx; simp at hx
          · rintro ⟨k', j', p', h1, _⟩; omega
      clear e
      rintro f m' σ' ⟨e, fs, rfl, rfl, rfl, hfs, hx1⟩
      walk_at "S"
      refine Xs.cons (Xs.mono (Q := gQ fa ba gr fd ((gr, .dT kvs) :: σ) i o 2 (A12 O P B i o)) ?_ ?_)
      · walk_at "W"
        refine ifX_c (fun h => ?_) (fun h => ?_)
        · have h : 0 < o := by simpa using h
          obtain ⟨k, rfl⟩ : ∃ k, o = k + 1 := ⟨o - 1, by omega⟩
          obtain ⟨j, hj⟩ : ∃ j, B[k]? = some j := ⟨_, List.getElem?_eq_getElem (by omega)⟩
          obtain ⟨e1, e2⟩ := E.post j (List.mem_of_getElem? hj)
          walk_at "W"
          rw [show ((k + 1 : Nat) : Int) - 1 = (k : Int) by omega]
          refine Op2.itList (y := AV.tup [.int (O.lev j), .str (O.fix j)]) rfl (by walk_at "M") (by omega) (by omega) (by rw [Int.toNat_natCast, List.getElem?_map, hj]; rfl) ?_
          walk_at "W"
          rw [show ((k + 1 : Nat) : Int) - 1 = (k : Int) by omega]
          obtain ⟨v, hv1, hv2⟩ := ht.get (a := i) (b := k) (by omega) hi' (by omega)
          rw [hv1]
          walk_at "W"
          refine Cl.fn' (c_bound2 I ?_) (le_n hn (by decide))
          rw [e1]
          walk_at "W"
          have hv := hv2 (O.lft j) e2
          refine ifX_c (fun h => ?_) (fun h => ?_)
          · obtain ⟨p, hp1, hp2⟩ := hv.mp (by simpa using h)
            walk_at "W"
            refine Cl.append (by walk_at "U") (by simp; omega) ?_
            walk_at "W"
            refine ⟨_, fs ++ [O.lev j], rfl, rfl, by simp, by simp; omega, fun x => ?_⟩
            rw [List.mem_append, hx1]
            constructor
            · rintro (hx | hx)
              · exact .inl hx
              · exact .inr ⟨k, j, p, rfl, hj, hp1, hp2, by simpa using hx⟩
            · rintro (hx | ⟨k', j', p', h1, h2, h3, h4, rfl⟩)
              · exact .inl hx
              · obtain rfl : k' = k := by omega
                rw [hj] at h2; cases h2; exact .inr (by simp)
          · have hno : ¬ v ≤ O.lft j := by simpa using h
            walk_at "W"
            refine ⟨_, fs, rfl, rfl, rfl, by omega, fun x => ?_⟩
            rw [hx1]
            constructor
            · exact .inl
            · rintro (hx | ⟨k', j', p', h1, h2, h3, h4, rfl⟩)
              · exact hx
              · obtain rfl : k' = k := by omega
                rw [hj] at h2; cases h2
                exact absurd (hv.mpr ⟨p', h3, h4⟩) hno
        · have h : o = 0 := by simp at h; omega
          walk_at "W"
          refine ⟨_, fs, rfl, rfl, rfl, by omega, fun x => ?_⟩
          rw [hx1]
          constructor
          · exact .inl
          · rintro (hx | ⟨k', j', p', h1, _⟩)
            · exact hx
            · omega
      clear hx1 hfs fs e
      rintro f m' σ' ⟨e, fs, rfl, rfl, rfl, hfs, hx1⟩
      have hpl : ∀ l : List Int, pls 1 (l.map AV.int) = true := by
        intro l; induction l with
        | nil => rfl
        | cons a l ih => simp only [List.map_cons, pls, ih, Bool.and_true]; rfl
      walk_at "W"
      intro fz _
      walk_at "W"
      refine Op2.neL (n := 1) (k := 1) (by walk_at "M") (by walk_at "M") (hpl fs) rfl (by omega) ?_
      walk_at "W"
      cases fs with
      | nil =>
        refine ifX_f rfl ?_
        walk_at "W"
        exact ⟨_, .cut (.cut (.refl _)), ⟨kvs, _, _, _, rfl, rfl, ht.skip (fun hz q hq => by have := (hx1 q).mpr ((V.step_ hz).mp hq); simp at this), by omega⟩⟩
      | cons a fs =>
        have hz : ¬ (i = 0 ∧ o = 0) := by
          rintro ⟨rfl, rfl⟩
          rcases (hx1 a).mp (by simp) with ⟨_, _, _, h, _⟩ | ⟨_, _, _, h, _⟩ <;> omega
        refine ifX_t rfl ?_
        walk_at "S"
        refine Xs.setItemT rfl ?_
        walk_at "W"
        refine Cl.min (ns := a :: fs) (by walk_at "M") (by simp) fun mn hm1 hm2 => ?_
        walk_at "W"
        refine ⟨_, _, [(i : Int), (o : Int)], _, rfl, rfl, .there (.there .here), by have : i * 101 ≤ 100 * 101 := Nat.mul_le_mul_right _ (by omega); omega, by omega, ?_⟩
        walk_at "W"
        have hb : IsB O P B i o (some mn) := ⟨(V.step_ hz).mpr ((hx1 mn).mp hm1), fun q hq => hm2 q ((hx1 q).mpr ((V.step_ hz).mp hq))⟩
        exact ⟨_, .cut (.cut (.refl _)), ⟨_, _, _, _, rfl, rfl, ht.put hz hb, by rw [Tab.len ((ht i o).2 hz (by omega))]; omega⟩⟩
    · rintro m σ' ⟨kvs, u, f, e, rfl, rfl, ht, hlen⟩
      walk_at "W"
      refine ⟨kvs, _, _, _, _, rfl, rfl, ?_, ?_⟩
      · exact ht.next
      · omega
  · rintro m σ' ⟨kvs, n, u, f, e, rfl, rfl, ht, hlen⟩
    walk_at "W"
    exact q gr kvs ht
open PySem PySem.W PySem.Calls PyProof.Rows PySem.SeqAt
theorem mulOk {a b : Int} (h0 : 0 ≤ b) (h1 : b < 100000) : IntMulOk a b := .of_right (intBits_le_64 (by omega) (by omega))
noncomputable def gf (fg : List Int) (i : Nat) : Int := fg.getD i 0
noncomputable def baseF (fg : List Int) : Int := gf fg 0 * 96 + gf fg 1
noncomputable def levF (fg : List Int) (j : Nat) : Int := 1 + Int.fmod (baseF fg + gf fg 2 * Int.fmod (gf fg (4 + j)) 5) 1200
noncomputable def pr2 : Nat → Str
  | 0 => "fy"
  | _ => "fx"
noncomputable def po2 : Nat → Str
  | 0 => "yf"
  | _ => "xf"
noncomputable def k2F (fg : List Int) (j : Nat) : Nat := (Int.fmod (Int.fdiv (gf fg (4 + j)) 5) 2).toNat
noncomputable def fixF' (fg : List Int) (j : Nat) : Str := if j < 3 then pr2 (k2F fg j) else po2 (k2F fg j)
noncomputable def cpF (j : Nat) : Nat := match j with
  | 0 => 117
  | 1 => 118
  | 2 => 119
  | 3 => 112
  | 4 => 113
  | _ => 114
noncomputable def nmF (j : Nat) : Str := ⟨#[cpF j]⟩
noncomputable def opF (fg : List Int) : OpE where
  nm := nmF
  num j := 29 + j
  fn j := 32 + j
  lev := levF fg
  fix := fixF' fg
  lft j := (bnd (levF fg j) (fixF' fg j)).1
  rgt j := (bnd (levF fg j) (fixF' fg j)).2
  inf j := false
theorem pr2_fix (k : Nat) : fixK (pr2 k) = .str "prefix" := by
  match k with
  | 0 => kernel_rfl
  | _ + 1 => kernel_rfl
theorem po2_fix (k : Nat) : fixK (po2 k) = .str "postfix" := by
  match k with
  | 0 => kernel_rfl
  | _ + 1 => kernel_rfl
theorem pr2_bnd (lv : Int) (k : Nat) : bnd2 lv (pr2 k) = (bnd lv (pr2 k)).2 := by
  match k with
  | 0 => kernel_rfl
  | _ + 1 => kernel_rfl
theorem po2_bnd (lv : Int) (k : Nat) : bnd2 lv (po2 k) = (bnd lv (po2 k)).1 := by
  match k with
  | 0 => kernel_rfl
  | _ + 1 => kernel_rfl
noncomputable def namesF (i : Nat) : List Str := (List.range i).map nmF
noncomputable def tsF (i : Nat) : List Str := fixA ++ namesF i
noncomputable def fkF (i : Nat) : List (Int × Int) := fnK ++ (List.range i).map fun (j : Nat) => ((29 + (j : Int)), 1)
noncomputable def kdF (i : Nat) : List (Int × AV) := (List.range i).map fun (j : Nat) => ((32 + (j : Int)), .str (nmF j))
noncomputable def enF (fg : List Int) (i : Nat) : List (Str × AV) := (List.range i).map fun j => (nmF j, (opF fg).ent j)
noncomputable def kpF (fg : List Int) (i : Nat) : List (Int × AV) := (List.range (min i 3)).map fun (j : Nat) => ((29 + (j : Int)), (opF fg).ent j)
noncomputable def ksF (fg : List Int) (i : Nat) : List (Int × AV) := (List.range (i - 3)).map fun (j : Nat) => ((29 + ((3 + j : Nat) : Int)), (opF fg).ent (3 + j))
theorem nm6_nd : ∀ i, i < 6 → nmF i ∉ namesF i ∧ nmF i ∉ fixA := by decide +kernel
theorem ts_nd : (tsF 6).Nodup := by decide +kernel
theorem fk_nd : (fkF 6).Nodup := by decide +kernel
theorem nm_at : ∀ i : Nat, i < 6 → (seqIndex? (i : Int) ("uvwpqr" : Str).length).bind (("uvwpqr" : Str).cps[·]?) = some (cpF i) := by decide +kernel
theorem nm_pre : ∀ i : Nat, i < 3 → (seqIndex? (i : Int) ("uvw" : Str).length).bind (("uvw" : Str).cps[·]?) = some (cpF i) := by decide +kernel
theorem nm_post : ∀ i : Nat, i < 3 → (seqIndex? (i : Int) ("pqr" : Str).length).bind (("pqr" : Str).cps[·]?) = some (cpF (3 + i)) := by decide +kernel
theorem ts_snoc (i : Nat) : tsF i ++ [nmF i] = tsF (i + 1) := by unfold tsF namesF; rw [List.range_succ, List.map_append, List.append_assoc]; rfl
theorem fk_snoc (i : Nat) : fkF i ++ [((29 + (i : Int)), 1)] = fkF (i + 1) := by unfold fkF; rw [List.range_succ, List.map_append, List.append_assoc]; rfl
theorem ts_len (i : Nat) : (tsF i).length = 29 + i := by unfold tsF namesF; simp [show fixA.length = 29 from rfl]
theorem fk_len (i : Nat) : (fkF i).length = 32 + i := by unfold fkF; simp [show fnK.length = 32 from rfl]
theorem ts_new {i : Nat} (h : i < 6) : nmF i ∉ tsF i := by
  unfold tsF; rw [List.mem_append, not_or]; exact ⟨(nm6_nd i h).2, (nm6_nd i h).1⟩
theorem fk_new {i : Nat} (h : i < 6) : ((29 + (i : Int)), 1) ∉ fkF i := by
  have : ∀ i, i < 6 → ((29 + (i : Int)), 1) ∉ fkF i := by decide +kernel
  exact this i h
theorem ts_pre {i k : Nat} (h : i ≤ k) : (tsF i).Sublist (tsF k) := by
  obtain ⟨d, rfl⟩ := Nat.le.dest h
  induction d with
  | zero => exact .refl _
  | succ d ih => exact (ih (by omega)).trans (by rw [show i + (d + 1) = (i + d) + 1 from rfl, ← ts_snoc]; exact List.sublist_append_left _ _)
theorem ts_at (i : Nat) : (tsF (i + 1))[29 + i]? = some (nmF i) := by
  rw [← ts_snoc, List.getElem?_append_right (by rw [ts_len]; omega), ts_len]; simp
theorem range_keys {κ : Type} [DecidableEq κ] (f : Nat → κ) (v : Nat → AV) (i : Nat) (h : ∀ j, j < i → f j ≠ f i) : aput ((List.range i).map fun j => (f j, v j)) (f i) (v i) = (List.range (i + 1)).map fun j => (f j, v j) := by
  rw [aput_new, List.range_succ, List.map_append]
  · rfl
  · rw [List.map_map]; intro q
    obtain ⟨j, hj, e⟩ := List.mem_map.mp q
    exact h j (List.mem_range.mp hj) e
theorem nm_inj : ∀ i, i < 6 → ∀ j, j < i → nmF j ≠ nmF i := by decide +kernel
theorem kd_put (i : Nat) : aput (kdF i) (32 + (i : Int)) (.str (nmF i)) = kdF (i + 1) := range_keys (fun j => 32 + (j : Int)) (fun j => .str (nmF j)) i fun j h => by omega
theorem en_put {fg : List Int} {i : Nat} (h : i < 6) : aput (enF fg i) (nmF i) ((opF fg).ent i) = enF fg (i + 1) := range_keys nmF (fun j => (opF fg).ent j) i (nm_inj i h)
theorem kp_put {fg : List Int} {i : Nat} (h : i < 3) : aput (kpF fg i) (29 + (i : Int)) ((opF fg).ent i) = kpF fg (i + 1) := by
  unfold kpF
  rw [show min i 3 = i by omega, show min (i + 1) 3 = i + 1 by omega]
  exact range_keys (fun j => 29 + (j : Int)) (fun j => (opF fg).ent j) i fun j h => by omega
theorem kp_same {fg : List Int} {i : Nat} (h : 3 ≤ i) : kpF fg (i + 1) = kpF fg i := by
  unfold kpF; rw [show min i 3 = 3 by omega, show min (i + 1) 3 = 3 by omega]
theorem ks_put {fg : List Int} {i : Nat} (h : 3 ≤ i) : aput (ksF fg i) (29 + (i : Int)) ((opF fg).ent i) = ksF fg (i + 1) := by
  obtain ⟨d, rfl⟩ := Nat.le.dest h
  unfold ksF
  rw [show 3 + d - 3 = d by omega, show 3 + d + 1 - 3 = d + 1 by omega]
  exact range_keys (fun j => 29 + ((3 + j : Nat) : Int)) (fun j => (opF fg).ent (3 + j)) d fun j h => by omega
theorem ks_same {fg : List Int} {i : Nat} (h : i < 3) : ksF fg (i + 1) = ksF fg i := by
  unfold ksF; rw [show i - 3 = 0 by omega, show i + 1 - 3 = 0 by omega]
noncomputable def mostF (fg : List Int) : Int := if 0 < gf fg 3 then 1 + Int.fmod (baseF fg + gf fg 2 * Int.fmod (gf fg 3) 5) 1200 - Int.fmod (Int.fdiv (gf fg 3) 5) 2 else 1200
noncomputable def nFr (fg : List Int) : Nat := (Int.fmod (gf fg 10 + 1) 5).toNat
noncomputable def nBk (fg : List Int) : Nat := (Int.fmod (gf fg 15 + 2) 5).toNat
noncomputable def jFr (fg : List Int) (i : Nat) : Nat := (Int.fmod (gf fg (11 + i)) 3).toNat
noncomputable def jBk (fg : List Int) (i : Nat) : Nat := 3 + (Int.fmod (gf fg (16 + i)) 3).toNat
/-- the prefix operators as they stand; the postfix ones -/
noncomputable def frL (fg : List Int) : List Nat := (List.range (nFr fg)).map (jFr fg)
noncomputable def bkL (fg : List Int) : List Nat := (List.range (nBk fg)).map (jBk fg)
theorem fmN (x : Int) {k : Int} (hk : 0 < k) : ((Int.fmod x k).toNat : Int) = Int.fmod x k ∧ ((Int.fmod x k).toNat : Int) < k := by
  have h := Int.toNat_of_nonneg (Int.fmod_nonneg_of_pos x hk)
  exact ⟨h, by rw [h]; exact Int.fmod_lt_of_pos x hk⟩
theorem nFr_le (fg : List Int) : (nFr fg : Int) = Int.fmod (gf fg 10 + 1) 5 ∧ nFr fg ≤ 4 :=
  have h := fmN (gf fg 10 + 1) (k := 5) (by decide)
  ⟨h.1, Nat.le_of_lt_succ (Int.ofNat_lt.mp h.2)⟩
theorem nBk_le (fg : List Int) : (nBk fg : Int) = Int.fmod (gf fg 15 + 2) 5 ∧ nBk fg ≤ 4 :=
  have h := fmN (gf fg 15 + 2) (k := 5) (by decide)
  ⟨h.1, Nat.le_of_lt_succ (Int.ofNat_lt.mp h.2)⟩
theorem jFr_lt (fg : List Int) (i : Nat) : jFr fg i < 3 ∧ Int.fmod (gf fg (11 + i)) 3 = (jFr fg i : Int) :=
  have h := fmN (gf fg (11 + i)) (k := 3) (by decide)
  ⟨Int.ofNat_lt.mp h.2, h.1.symm⟩
theorem jBk_lt (fg : List Int) (i : Nat) : 3 ≤ jBk fg i ∧ jBk fg i < 6 ∧ ∃ k, k < 3 ∧ jBk fg i = 3 + k ∧ Int.fmod (gf fg (16 + i)) 3 = (k : Int) := by
  have h1 := Int.fmod_nonneg_of_pos (gf fg (16 + i)) (b := 3) (by decide)
  have h2 := Int.fmod_lt_of_pos (gf fg (16 + i)) (b := 3) (by decide)
  exact ⟨by unfold jBk; omega, by unfold jBk; omega, (Int.fmod (gf fg (16 + i)) 3).toNat, by omega, rfl, by omega⟩
theorem frL_len (fg : List Int) : (frL fg).length = nFr fg := by unfold frL; simp
theorem bkL_len (fg : List Int) : (bkL fg).length = nBk fg := by unfold bkL; simp
theorem frL_mem {fg : List Int} {j : Nat} (h : j ∈ frL fg) : j < 3 := by
  unfold frL at h; obtain ⟨i, _, rfl⟩ := List.mem_map.mp h; exact (jFr_lt fg i).1
theorem bkL_mem {fg : List Int} {j : Nat} (h : j ∈ bkL fg) : 3 ≤ j ∧ j < 6 := by
  unfold bkL at h; obtain ⟨i, _, rfl⟩ := List.mem_map.mp h; exact ⟨(jBk_lt fg i).1, (jBk_lt fg i).2.1⟩
theorem frL_at {fg : List Int} {i : Nat} (h : i < nFr fg) : (frL fg)[i]? = some (jFr fg i) := by unfold frL; simp [List.getElem?_map, List.getElem?_range h]
theorem bkL_at {fg : List Int} {i : Nat} (h : i < nBk fg) : (bkL fg)[i]? = some (jBk fg i) := by unfold bkL; simp [List.getElem?_map, List.getElem?_range h]
theorem levF_b (fg : List Int) (j : Nat) : 1 ≤ levF fg j ∧ levF fg j ≤ 1200 := by
  have h1 := Int.fmod_nonneg_of_pos (baseF fg + gf fg 2 * Int.fmod (gf fg (4 + j)) 5) (b := 1200) (by decide)
  have h2 := Int.fmod_lt_of_pos (baseF fg + gf fg 2 * Int.fmod (gf fg (4 + j)) 5) (b := 1200) (by decide)
  unfold levF; omega
theorem bnd_le (lv : Int) (t : Str) (h : 0 ≤ lv) : (bnd lv t).1 ≤ lv ∧ (bnd lv t).2 ≤ lv ∧ -1 ≤ (bnd lv t).1 := by
  unfold bnd
  repeat' split
  all_goals simp only
  all_goals omega
theorem enF_get {fg : List Int} {j : Nat} (h : j < 6) : aget (enF fg 6) (nmF j) = some ((opF fg).ent j) := by
  refine aget_at (i := j) ?_ (by unfold enF; simp [List.getElem?_map, List.getElem?_range h])
  have : (enF fg 6).map (·.1) = namesF 6 := by unfold enF namesF; rw [List.map_map]; rfl
  rw [this]; decide +kernel
theorem mostF_b (fg : List Int) : 0 ≤ mostF fg ∧ mostF fg ≤ 1200 := by
  have h1 := Int.fmod_nonneg_of_pos (baseF fg + gf fg 2 * Int.fmod (gf fg 3) 5) (b := 1200) (by decide)
  have h2 := Int.fmod_lt_of_pos (baseF fg + gf fg 2 * Int.fmod (gf fg 3) 5) (b := 1200) (by decide)
  have h3 := Int.fmod_nonneg_of_pos (Int.fdiv (gf fg 3) 5) (b := 2) (by decide)
  have h4 := Int.fmod_lt_of_pos (Int.fdiv (gf fg 3) 5) (b := 2) (by decide)
  unfold mostF; split <;> omega
theorem pr2_at {k : Nat} (h : k < 2) : ([AV.str "fy", .str "fx"])[k]? = some (.str (pr2 k)) := by
  match k, h with
  | 0, _ => rfl
  | 1, _ => rfl
theorem po2_at {k : Nat} (h : k < 2) : ([AV.str "yf", .str "xf"])[k]? = some (.str (po2 k)) := by
  match k, h with
  | 0, _ => rfl
  | 1, _ => rfl
theorem nm_ne : ∀ j, j < 6 → (nmF j == "") = false ∧ (nmF j == "-") = false := by decide +kernel
theorem nm_isU : ∀ j, j < 6 → isU (nmF j) = decide (j < 3) := by decide +kernel
theorem ts_ix : ∀ j, j < 6 → (tsF 6)[29 + j]? = some (nmF j) := by decide +kernel
theorem fk_ix : ∀ j : Nat, j < 6 → (fkF 6)[32 + j]? = some ((29 + (j : Int)), 1) := by decide +kernel
theorem num_F {j : Nat} (h : j < 6) : aget (anD (tsF 6)) (nmF j) = some (.int (29 + (j : Int))) := by
  have := anD_get ts_nd (ts_ix j h)
  rwa [show ((29 + j : Nat) : Int) = 29 + (j : Int) from by omega] at this
theorem fn_F {j : Nat} (h : j < 6) : aget (fnD (fkF 6)) [29 + (j : Int), 1] = some (.int (32 + (j : Int))) := by
  have := fnD_get fk_nd (fk_ix j h)
  rwa [show ((32 + j : Nat) : Int) = 32 + (j : Int) from by omega] at this
theorem kd_F {j : Nat} (h : j < 6) : aget (kdF 6) (32 + (j : Int)) = some (.str (nmF j)) := by
  refine aget_at (i := j) (by decide) ?_
  unfold kdF; simp [List.getElem?_map, List.getElem?_range h]
theorem kp_yes {fg : List Int} {j : Nat} (h : j < 3) : aget (kpF fg 6) (29 + (j : Int)) = some ((opF fg).ent j) := by
  refine aget_at (i := j) (by show ([29, 30, 31] : List Int).Nodup; decide) ?_
  match j, h with
  | 0, _ => rfl
  | 1, _ => rfl
  | 2, _ => rfl
theorem ks_yes {fg : List Int} {j : Nat} (h : 3 ≤ j) (h6 : j < 6) : aget (ksF fg 6) (29 + (j : Int)) = some ((opF fg).ent j) := by
  refine aget_at (i := j - 3) (by show ([32, 33, 34] : List Int).Nodup; decide) ?_
  match j, h, h6 with
  | 3, _, _ => rfl
  | 4, _, _ => rfl
  | 5, _, _ => rfl
theorem fix_pre {fg : List Int} {j : Nat} (h : j < 3) : fixF' fg j = pr2 (k2F fg j) := by unfold fixF'; rw [if_pos h]
theorem fix_post {fg : List Int} {j : Nat} (h : 3 ≤ j) : fixF' fg j = po2 (k2F fg j) := by unfold fixF'; rw [if_neg (by omega)]
theorem bnd_pre {fg : List Int} {j : Nat} (h : j < 3) : bnd2 ((opF fg).lev j) ((opF fg).fix j) = (opF fg).rgt j := by
  show bnd2 (levF fg j) (fixF' fg j) = (bnd (levF fg j) (fixF' fg j)).2
  rw [fix_pre h]; exact pr2_bnd _ _
theorem bnd_post {fg : List Int} {j : Nat} (h : 3 ≤ j) : bnd2 ((opF fg).lev j) ((opF fg).fix j) = (opF fg).lft j := by
  show bnd2 (levF fg j) (fixF' fg j) = (bnd (levF fg j) (fixF' fg j)).1
  rw [fix_post h]; exact po2_bnd _ _
theorem lft_le (fg : List Int) (j : Nat) : (opF fg).lft j ≤ (opF fg).lev j ∧ (opF fg).lft j < 9999 ∧ (opF fg).rgt j < 9999 := by
  have h1 := levF_b fg j
  have h2 := bnd_le (levF fg j) (fixF' fg j) (by omega)
  refine ⟨h2.1, ?_, ?_⟩
  · show (bnd (levF fg j) (fixF' fg j)).1 < 9999; omega
  · show (bnd (levF fg j) (fixF' fg j)).2 < 9999; omega
theorem grE_F (fg : List Int) : GrE (opF fg) (frL fg).reverse (bkL fg) where
  pre j h := ⟨bnd_pre (frL_mem (by simpa using h)), (lft_le fg j).2.2⟩
  post j h := ⟨bnd_post (bkL_mem h).1, (lft_le fg j).2.1⟩
theorem peelE_F (fg : List Int) : PeelE (opF fg) (frL fg).reverse (bkL fg) (kdF 6) (enF fg 6) where
  pre j h := by
    have h3 := frL_mem (fg := fg) (j := j) (by simpa using h)
    exact ⟨kd_F (by omega), (nm_ne j (by omega)).1, enF_get (by omega), bnd_pre h3, (nm_isU j (by omega)).trans (decide_eq_true h3)⟩
  post j h := by
    have h3 := bkL_mem h
    exact ⟨kd_F h3.2, (nm_ne j h3.2).1, enF_get h3.2, bnd_post h3.1, (nm_isU j h3.2).trans (decide_eq_false (by omega))⟩
/-- the prefix operators, as the parser takes them -/
noncomputable def prF (fg : List Int) (i j : Nat) : PrO := ⟨nmF j, 29 + j, levF fg j, fixF' fg j, 32 + j, 2 * i⟩
noncomputable def psF (fg : List Int) : List PrO := (frL fg).zipIdx.map fun p => prF fg p.2 p.1
theorem psF_len (fg : List Int) : (psF fg).length = nFr fg := by unfold psF; simp [frL_len]
theorem psF_at {fg : List Int} {i : Nat} {o : PrO} (h : (psF fg)[i]? = some o) : ∃ j, (frL fg)[i]? = some j ∧ o = prF fg i j := by
  unfold psF at h
  rw [List.getElem?_map, List.getElem?_zipIdx] at h
  cases hj : (frL fg)[i]? with
  | none => rw [hj] at h; simp at h
  | some j => rw [hj] at h; simp at h; exact ⟨j, rfl, h.symm⟩
theorem psF_of {fg : List Int} {i j : Nat} (h : (frL fg)[i]? = some j) : (psF fg)[i]? = some (prF fg i j) := by
  unfold psF; rw [List.getElem?_map, List.getElem?_zipIdx, h]; simp
theorem preRun_lim {fg : List Int} {most : Int} : ∀ i, i ≤ nFr fg → preRun most ((psF fg).take i) = (lim2 (opF fg) (frL fg).reverse most (nFr fg - i), frm2 (opF fg) (frL fg).reverse most (nFr fg - i))
  | 0, _ => by
    have hl : (frL fg).reverse.length = nFr fg := by rw [List.length_reverse, frL_len]
    rw [Nat.sub_zero, frm2_end (by omega)]
    unfold lim2
    rw [List.getElem?_eq_none (by omega)]
    rfl
  | i + 1, h => by
    have hj := frL_at (fg := fg) (i := i) (by omega)
    have hl : (frL fg).length = nFr fg := frL_len fg
    have hr : (frL fg).reverse[nFr fg - (i + 1)]? = some (jFr fg i) := by
      rw [List.getElem?_reverse (by omega), hl, ss1 h]; exact hj
    rw [preRun_succ (psF_of hj), preRun_lim i (by omega), frm2_at hr, ss3 h]
    conv => rhs; unfold lim2
    rw [hr]
    rfl
/-- the row's tokens -/
noncomputable def tkN (fg : List Int) (j pos : Nat) : AV := .tup [.str "name", .str (nmF j), .int (2 * (pos : Int))]
noncomputable def rowF (fg : List Int) : List AV := (frL fg).map (fun j => AV.str (nmF j)) ++ [.tup [.str "i", .int 5]] ++ (bkL fg).map fun j => AV.str (nmF j)
theorem rowF_len (fg : List Int) : (rowF fg).length = nFr fg + 1 + nBk fg := by unfold rowF; simp [frL_len, bkL_len]; omega
noncomputable def tkF (fg : List Int) (i : Nat) : AV := if i < nFr fg then tkN fg (jFr fg i) i else if i = nFr fg then .tup [.str "int", .int 5, .int (2 * (i : Int))] else tkN fg (jBk fg (i - nFr fg - 1)) i
noncomputable def TF (fg : List Int) : List AV := (List.range (rowF fg).length).map (tkF fg) ++ [.tup [.str "end", .str ".", .int (2 * ((rowF fg).length : Int))]]
theorem rowF_pre {fg : List Int} {i : Nat} (h : i < nFr fg) : (rowF fg)[i]? = some (.str (nmF (jFr fg i))) := by
  unfold rowF
  rw [List.append_assoc, List.getElem?_append_left (by rw [List.length_map, frL_len]; exact h), List.getElem?_map, frL_at h]; rfl
theorem rowF_post {fg : List Int} {i : Nat} (h : i < nBk fg) : (rowF fg)[nFr fg + 1 + i]? = some (.str (nmF (jBk fg i))) := by
  unfold rowF
  rw [List.getElem?_append_right (by simp [frL_len])]
  simp only [List.length_append, List.length_map, frL_len, List.length_cons, List.length_nil]
  rw [show nFr fg + 1 + i - (nFr fg + (0 + 1)) = i by omega, List.getElem?_map, bkL_at h]; rfl
theorem TF_len (fg : List Int) : (TF fg).length = (rowF fg).length + 1 := by unfold TF; simp
theorem TF_at {fg : List Int} {i : Nat} (h : i < (rowF fg).length) : (TF fg)[i]? = some (tkF fg i) := by
  unfold TF
  rw [List.getElem?_append_left (by simp; exact h)]; simp [List.getElem?_map, List.getElem?_range h]
theorem TF_end (fg : List Int) : (TF fg)[(rowF fg).length]? = some (.tup [.str "end", .str ".", .int (2 * ((rowF fg).length : Int))]) := by
  unfold TF
  rw [List.getElem?_append_right (by simp)]; simp
/-- the row behind the prefix operators -/
noncomputable def tok2 (fg : List Int) (i : Nat) : Option Tk := if i = nFr fg then some (.int 5) else if nFr fg < i then (if i = (rowF fg).length then some .fin else (bkL fg)[i - nFr fg - 1]?.map Tk.op) else none
theorem tok2_op {fg : List Int} {i j : Nat} (h : tok2 fg i = some (.op j)) : ∃ q, i = nFr fg + 1 + q ∧ (bkL fg)[q]? = some j ∧ q < nBk fg := by
  unfold tok2 at h
  split at h
  · cases h
  · split at h
    · split at h
      · cases h
      · obtain ⟨k, hk, e⟩ := Option.map_eq_some_iff.mp h
        cases e
        have := (List.getElem?_eq_some_iff.mp hk).1
        rw [bkL_len] at this
        exact ⟨i - nFr fg - 1, by omega, hk, this⟩
    · cases h
theorem tok2_B {fg : List Int} {q j : Nat} (h : (bkL fg)[q]? = some j) : tok2 fg (nFr fg + 1 + q) = some (.op j) := by
  have hq := (List.getElem?_eq_some_iff.mp h).1
  rw [bkL_len] at hq
  unfold tok2
  rw [if_neg (by omega), if_pos (by omega), if_neg (by rw [rowF_len]; omega), show nFr fg + 1 + q - nFr fg - 1 = q by omega, h]; rfl
theorem tok2_F (fg : List Int) : tok2 fg (nFr fg + 1 + (bkL fg).length) = some .fin := by
  unfold tok2
  rw [bkL_len, if_neg (by omega), if_pos (by omega), if_pos (by rw [rowF_len])]
theorem tok2_T {fg : List Int} {i : Nat} {t : Tk} (h : tok2 fg i = some t) : i < 999 ∧ ∃ pos, (TF fg)[i]? = some (tokAV (opF fg) pos t) := by
  have h1 := (nFr_le fg).2
  have h2 := (nBk_le fg).2
  have hl := rowF_len fg
  have h0 := h
  unfold tok2 at h
  split at h
  · rename_i e
    cases h
    refine ⟨by omega, 2 * (i : Int), ?_⟩
    rw [TF_at (by omega)]
    unfold tkF
    rw [if_neg (by omega), if_pos e]; rfl
  · split at h
    · split at h
      · rename_i e
        cases h
        refine ⟨by omega, 2 * (i : Int), ?_⟩
        rw [e, TF_end]; rfl
      · obtain ⟨j, hj, e⟩ := Option.map_eq_some_iff.mp h
        cases e
        obtain ⟨q, rfl, hq, hlt⟩ := tok2_op h0
        refine ⟨by omega, 2 * ((nFr fg + 1 + q : Nat) : Int), ?_⟩
        rw [TF_at (by omega)]
        unfold tkF
        rw [if_neg (by omega), if_neg (by omega), show nFr fg + 1 + q - nFr fg - 1 = q by omega]
        rw [bkL_at hlt] at hq; cases hq
        rfl
    · cases h
theorem preE_F (fg : List Int) : PreEnv (psF fg) (TF fg) (anD (tsF 6)) (fnD (fkF 6)) (kpF fg 6) := by
  have h1 := (nFr_le fg).2
  have hl := rowF_len fg
  have key : ∀ i o, (psF fg)[i]? = some o → i < nFr fg ∧ o = prF fg i (jFr fg i) := fun i o h => by
    obtain ⟨j, hj, rfl⟩ := psF_at h
    have hi := (List.getElem?_eq_some_iff.mp hj).1
    rw [frL_len] at hi
    rw [frL_at hi] at hj; cases hj
    exact ⟨hi, rfl⟩
  refine ⟨fun i o h => ?_, fun i o h => ?_, fun i o h => ?_, fun i o h => ?_, fun i o h => ?_, by rw [psF_len]; omega⟩
  · obtain ⟨hi, rfl⟩ := key i o h
    rw [TF_at (by omega)]
    unfold tkF
    rw [if_pos hi]; rfl
  · obtain ⟨hi, rfl⟩ := key i o h
    rw [TF_at (by omega)]
    unfold tkF
    split
    · exact ⟨_, _, rfl, by decide, by decide, by decide⟩
    · split
      · exact ⟨_, _, rfl, by decide, by decide, by decide⟩
      · omega
  · obtain ⟨hi, rfl⟩ := key i o h
    have hj := (jFr_lt fg i).1
    exact ⟨num_F (by omega), by show 0 ≤ 29 + (jFr fg i : Int); omega, (nm_ne _ (by omega)).2⟩
  · obtain ⟨hi, rfl⟩ := key i o h
    exact kp_yes (jFr_lt fg i).1
  · obtain ⟨hi, rfl⟩ := key i o h
    have hj := (jFr_lt fg i).1
    exact ⟨fn_F (by omega), by show 0 ≤ 32 + (jFr fg i : Int); omega⟩
theorem pls_all {n : Nat} : ∀ {l : List AV}, (∀ x ∈ l, x.pl n = true) → pls n l = true
  | [], _ => rfl
  | x :: l, h => by simp only [pls, h x (.head _), pls_all fun y hy => h y (.tail _ hy), Bool.and_true]
theorem eqvs_self {n : Nat} {l : List AV} (h : pls n l = true) : eqvs l l = true := (eqvs_iff n n l l h h).mpr rfl
theorem tkF_tup (fg : List Int) (i : Nat) : ∃ l, tkF fg i = .tup l ∧ pls 0 l = true := by
  unfold tkF
  split
  · exact ⟨_, rfl, rfl⟩
  · split <;> exact ⟨_, rfl, rfl⟩
theorem TF_tup {fg : List Int} {i : Nat} (h : i ≤ (rowF fg).length) : ∃ l, (TF fg)[i]? = some (.tup l) ∧ pls 0 l = true := by
  by_cases e : i < (rowF fg).length
  · obtain ⟨l, h1, h2⟩ := tkF_tup fg i
    exact ⟨l, by rw [TF_at e, h1], h2⟩
  · obtain rfl : i = (rowF fg).length := by omega
    exact ⟨_, TF_end fg, rfl⟩
theorem pls_TF (fg : List Int) : pls 1 (TF fg) = true := by
  refine pls_all fun x hx => ?_
  obtain ⟨i, hi, rfl⟩ := List.mem_iff_getElem.mp hx
  rw [TF_len] at hi
  obtain ⟨l, h1, h2⟩ := TF_tup (fg := fg) (i := i) (by omega)
  obtain ⟨_, e⟩ := List.getElem?_eq_some_iff.mp h1
  rw [e]
  simp only [AV.pl]; exact h2
theorem pls_row (fg : List Int) (c : Nat) : pls 1 ((rowF fg).take c) = true := by
  refine pls_all fun x hx => ?_
  have hx := List.mem_of_mem_take hx
  unfold rowF at hx
  simp only [List.mem_append, List.mem_map, List.mem_cons, List.not_mem_nil, or_false] at hx
  rcases hx with (⟨j, _, rfl⟩ | rfl) | ⟨j, _, rfl⟩ <;> rfl
theorem row_take (fg : List Int) {q : Nat} (h : q ≤ nBk fg) : (rowF fg).take (nFr fg + 1 + q) = (frL fg).map (fun j => AV.str (nmF j)) ++ [.tup [.str "i", .int 5]] ++ ((bkL fg).take q).map fun j => AV.str (nmF j) := by
  unfold rowF
  rw [List.take_append, List.take_of_length_le (by simp [frL_len])]
  simp only [List.length_append, List.length_map, frL_len, List.length_cons, List.length_nil]
  rw [show nFr fg + 1 + q - (nFr fg + (0 + 1)) = q by omega, List.map_take]
open PySem PySem.W PySem.Calls PyProof.Rows PySem.SeqAt
structure Ad where
  (wl cf ce za sy dsy tl an fl fn o od pt it st ea ka : Addr)
noncomputable abbrev lawN2 : List (Str × NameKind) := [(("script" : Str), NameKind.local), (("figures" : Str), NameKind.cell), (("book" : Str), NameKind.local), (("operators" : Str), NameKind.local), (("start" : Str), NameKind.local), (("entries" : Str), NameKind.cell), (("kinds" : Str), NameKind.local), (("step" : Str), NameKind.local), (("name" : Str), NameKind.local), (("fixes" : Str), NameKind.local), (("entry" : Str), NameKind.local), (("most" : Str), NameKind.local), (("fronts" : Str), NameKind.local), (("backs" : Str), NameKind.local), (("row" : Str), NameKind.local), (("tokens" : Str), NameKind.local), (("refused" : Str), NameKind.local), (("bound" : Str), NameKind.local), (("grid" : Str), NameKind.local), (("count" : Str), NameKind.local), (("handed" : Str), NameKind.local), (("parser" : Str), NameKind.local), (("term" : Str), NameKind.local), (("level" : Str), NameKind.local), (("fault" : Str), NameKind.local), (("_law_figures" : Str), NameKind.globalImplicit), (("Symbols" : Str), NameKind.globalImplicit), (("OperatorTable" : Str), NameKind.globalImplicit), (("range" : Str), NameKind.globalImplicit), (("len" : Str), NameKind.globalImplicit), (("_law_bound" : Str), NameKind.globalImplicit), (("_law_grid" : Str), NameKind.globalImplicit), (("Parser" : Str), NameKind.globalImplicit), (("SyntaxFault" : Str), NameKind.globalImplicit), (("_law_peeled" : Str), NameKind.globalImplicit)]
theorem lawN2_nd : (("__debug__" : Str) :: lawN2.map (·.1)).Nodup := by decide +kernel
noncomputable abbrev lawB : List Stmt := fnB (nthS pw.main.body 47)
structure LX (X : Fx) (a : Ad) (σ₀ : List Addr) (h₀ : Heap) : Prop where
  n : X.n = 100
  N : X.fd.scope.names = lawN2
  K : X.fd.scope.kind = .function
  C : X.cells = [(("entries" : Str), a.ce), (("figures" : Str), a.cf)]
  R : X.R = some ([], σ₀, h₀)
noncomputable abbrev ki0 : List (Int × AV) := [(7, .tup [.int 1000, .str "xfy"])]
noncomputable abbrev sR' (cf ce za sy dsy tl an fl fn ea : Addr) (fg : List Int) : Hp := (sy, .inst 154 dsy) :: (dsy, .ns nmSy [some (.ref tl), some (.ref an), some (.ref fl), some (.ref fn)]) :: (za, .list (fg.map .int)) :: (cf, .cell (some (.ref za))) :: (ce, .cell (some (.ref ea))) :: []
noncomputable abbrev sA' (cf ce za sy dsy tl an fl fn o od pt it st ea ka : Addr) (fg : List Int) (i : Nat) : Hp := (ka, .dI (kdF i)) :: (ea, .dS (enF fg i)) :: opS o od sy pt it st (kpF fg i) ki0 (ksF fg i) (syS tl an fl fn (tsF i) (fkF i) (sR' cf ce za sy dsy tl an fl fn ea fg))
noncomputable abbrev sA (a : Ad) (fg : List Int) (i : Nat) : Hp := sA' a.cf a.ce a.za a.sy a.dsy a.tl a.an a.fl a.fn a.o a.od a.pt a.it a.st a.ea a.ka fg i
noncomputable abbrev RT : AF → Loc → Hp → Prop := retX fun v _ => v = .bool true
theorem gfs {fg : List Int} (hfg : fg.length = 20) (hd : Dig fg) (i : Nat) (hi : i < 20) : (fg.map AV.int)[i]? = some (.int (gf fg i)) ∧ 0 ≤ gf fg i ∧ gf fg i < 96 := by
  have : fg[i]? = some (gf fg i) := by
    unfold gf; rw [List.getD_eq_getElem?_getD, List.getElem?_eq_getElem (by omega)]; rfl
  exact ⟨by rw [List.getElem?_map, this]; rfl, hd _ (List.mem_of_getElem? this)⟩
theorem add_F {G : Gl} (I : IsG G) {fg : List Int} {i : Nat} (hi : i < 6) {o od sy pt it st : Addr} {h0 h1 h2 : Addr × AO} {S : Hp} {ki : List (Int × AV)} {Q : AV → Hp → Prop} (q : Q .none (h0 :: h1 :: h2 :: opS o od sy pt it st (kpF fg (i + 1)) ki (ksF fg (i + 1)) S)) :
    CallOk G 5 (.ref 276) [.ref o, .int (levF fg i), .str (fixF' fg i), .int (29 + (i : Int))] (h0 :: h1 :: h2 :: opS o od sy pt it st (kpF fg i) ki (ksF fg i) S) Q := by
  have hlev := levF_b fg i
  by_cases h : i < 3
  · refine c_add_prefix I (kvs := kpF fg i) (by walk_at "M") (by walk_at "M") (by rw [fix_pre h]; exact pr2_fix _) (by omega) (by unfold kpF; simp; omega) (.there (.there (.there (.there (.there (.here)))))) ?_
    rw [show AV.tup [.int (levF fg i), .str (fixF' fg i)] = (opF fg).ent i from rfl, kp_put h]
    rwa [ks_same h] at q
  · refine c_add_postfix I (kvs := ksF fg i) (by walk_at "M") (by walk_at "M") (by rw [fix_post (by omega)]; exact po2_fix _) (by omega) (by unfold ksF; simp; omega) (.there (.there (.there (.here)))) ?_
    rw [show AV.tup [.int (levF fg i), .str (fixF' fg i)] = (opF fg).ent i from rfl, ks_put (by omega)]
    rwa [kp_same (by omega)] at q
theorem atom_F {G : Gl} (I : IsG G) {i : Nat} (hi : i < 6) {sy dsy tl an fl fn : Addr} {h0 h1 h2 : Addr × AO} {R : Hp} {o od pt it st : Addr} {kp ki ks : List (Int × AV)} {fk : List (Int × Int)} {Q : AV → Hp → Prop} (q : Q (.int (29 + (i : Int))) (h0 :: h1 :: h2 :: opS o od sy pt it st kp ki ks (syS tl an fl fn (tsF (i + 1)) fk ((sy, .inst 154 dsy) :: (dsy, .ns nmSy [some (.ref tl), some (.ref an), some (.ref fl), some (.ref fn)]) :: R)))) :
    CallOk G 2 (.ref 88) [.ref sy, .str (nmF i)] (h0 :: h1 :: h2 :: opS o od sy pt it st kp ki ks (syS tl an fl fn (tsF i) fk ((sy, .inst 154 dsy) :: (dsy, .ns nmSy [some (.ref tl), some (.ref an), some (.ref fl), some (.ref fn)]) :: R))) Q := by
  refine sy_atom_new I (x := sy) (dx := dsy) (tl := tl) (an := an) (fl := fl) (fn := fn) (ts := (tsF i).map .str) (kvs := anD (tsF i)) (by walk_at "M") (by walk_at "M") (by walk_at "M") (by walk_at "M") (by walk_at "M") (by walk_at "M") (anD_none (ts_new hi)) (by rw [List.length_map, ts_len]; omega) (by rw [anD_len, ts_len]; omega) (.there (.there (.there (.there (.there (.there (.there (.there (.there (.there (.there (.here)))))))))))) (.there (.there (.there (.there (.there (.there (.there (.there (.there (.there (.here))))))))))) ?_
  rw [List.length_map, anD_put (ts_new hi), show (tsF i).map AV.str ++ [.str (nmF i)] = (tsF (i + 1)).map AV.str from by rw [← ts_snoc, List.map_append]; rfl, ts_snoc, ts_len, show ((29 + i : Nat) : Int) = 29 + (i : Int) from by omega]
  exact q
theorem func_F {G : Gl} (I : IsG G) {i : Nat} (hi : i < 6) {sy dsy tl an fl fn : Addr} {h0 h1 h2 : Addr × AO} {R : Hp} {o od pt it st : Addr} {kp ki ks : List (Int × AV)} {Q : AV → Hp → Prop} (q : Q (.int (32 + (i : Int))) (h0 :: h1 :: h2 :: opS o od sy pt it st kp ki ks (syS tl an fl fn (tsF (i + 1)) (fkF (i + 1)) ((sy, .inst 154 dsy) :: (dsy, .ns nmSy [some (.ref tl), some (.ref an), some (.ref fl), some (.ref fn)]) :: R)))) :
    CallOk G 3 (.ref 109) [.ref sy, .str (nmF i), .int 1] (h0 :: h1 :: h2 :: opS o od sy pt it st kp ki ks (syS tl an fl fn (tsF (i + 1)) (fkF i) ((sy, .inst 154 dsy) :: (dsy, .ns nmSy [some (.ref tl), some (.ref an), some (.ref fl), some (.ref fn)]) :: R))) Q := by
  have hget : aget (anD (tsF (i + 1))) (nmF i) = some (.int (29 + (i : Int))) := by
    have := anD_get (ts_nd.sublist (ts_pre (i := i + 1) (k := 6) (by omega))) (ts_at i)
    rwa [show ((29 + i : Nat) : Int) = 29 + (i : Int) from by omega] at this
  have hfk := fk_new hi
  refine c_func I (x := sy) (dx := dsy) (tl := tl) (an := an) (fl := fl) (fn := fn) (fs := flD (fkF i)) (kvs := fnD (fkF i)) (by walk_at "M") (by walk_at "M") (by walk_at "M") hget (by omega) (by walk_at "M") (by walk_at "M") (fnD_none hfk) (.there (.there (.there (.there (.there (.there (.there (.there (.there (.here)))))))))) (by walk_at "M") (by walk_at "M") (.there (.there (.there (.there (.there (.there (.there (.there (.here))))))))) (by rw [flD_len, fk_len]; omega) (by rw [fnD_len, fk_len]; omega) ?_
  rw [flD_len, fnD_put hfk, show flD (fkF i) ++ [.tup [.int (29 + (i : Int)), .int 1]] = flD (fkF (i + 1)) from by rw [← fk_snoc]; unfold flD; rw [List.map_append]; rfl, fk_snoc, fk_len, show ((32 + i : Nat) : Int) = 32 + (i : Int) from by omega]
  exact q
noncomputable def fixL (i : Nat) : List AV := if i < 3 then [.str "fy", .str "fx"] else [.str "yf", .str "xf"]
theorem fixL_at {fg : List Int} {i : Nat} : (fixL i)[k2F fg i]? = some (.str (fixF' fg i)) := by
  have h1 := Int.fmod_nonneg_of_pos (Int.fdiv (gf fg (4 + i)) 5) (b := 2) (by decide)
  have h2 := Int.fmod_lt_of_pos (Int.fdiv (gf fg (4 + i)) 5) (b := 2) (by decide)
  have h3 : k2F fg i < 2 := by unfold k2F; omega
  unfold fixL fixF'
  split
  · exact pr2_at h3
  · exact po2_at h3
inductive aI (wl cf ce za sy dsy tl an fl fn o od pt it st ea ka : Addr) (fg : List Int) (i : Nat) (m : Loc) (σ' : Hp) : Prop
  | mk (st_ nm_ fx_ en_ : Option AV) : m = [some (.ref wl), none, some (.ref sy), some (.ref o), some (.int (baseF fg)), none, some (.ref ka), st_, nm_, fx_, en_, none, none, none, none, none, none, none, none, none, none, none, none, none, none] → i ≤ 6 → σ' = sA' cf ce za sy dsy tl an fl fn o od pt it st ea ka fg i → aI wl cf ce za sy dsy tl an fl fn o od pt it st ea ka fg i m σ'
inductive aQ (wl cf ce za sy dsy tl an fl fn o od pt it st ea ka : Addr) (fg : List Int) (en_ : Option AV) (i : Nat) (f : AF) (m' : Loc) (σ' : Hp) : Prop
  | mk (la : Addr) : f = .next → m' = [some (.ref wl), none, some (.ref sy), some (.ref o), some (.int (baseF fg)), none, some (.ref ka), some (.int (i : Int)), some (.str (nmF i)), some (.ref la), en_, none, none, none, none, none, none, none, none, none, none, none, none, none, none] → σ' = (la, .list (fixL i)) :: sA' cf ce za sy dsy tl an fl fn o od pt it st ea ka fg i → aQ wl cf ce za sy dsy tl an fl fn o od pt it st ea ka fg en_ i f m' σ'
inductive aR (wl cf ce za sy dsy tl an fl fn o od pt it st ea ka : Addr) (fg : List Int) (st_ nm_ fx_ en_ : Option AV) (f : AF) (m' : Loc) (σ' : Hp) : Prop
  | mk : f = .next → m' = [some (.ref wl), none, some (.ref sy), some (.ref o), some (.int (baseF fg)), none, some (.ref ka), st_, nm_, fx_, en_, some (.int (mostF fg)), none, none, none, none, none, none, none, none, none, none, none, none, none] → σ' = sA' cf ce za sy dsy tl an fl fn o od pt it st ea ka fg 6 → aR wl cf ce za sy dsy tl an fl fn o od pt it st ea ka fg st_ nm_ fx_ en_ f m' σ'
theorem stA {G : Gl} (I : IsG G) {wl cf ce : Addr} {ns : List Int} (hl : ∀ σ, LAt G σ wl (ns.map .int)) (hz : ns.length ≤ 100) {X : Fx} {σ₀ : List Addr} {h₀ : Heap} (hG : X.G = G) (H0 : ∀ za sy dsy tl an fl fn o od pt it st ea ka, LX X ⟨wl, cf, ce, za, sy, dsy, tl, an, fl, fn, o, od, pt, it, st, ea, ka⟩ σ₀ h₀)
    (q : ∀ (a : Ad) (fg : List Int) (st_ nm_ fx_ en_ : Option AV), a.wl = wl → LX X a σ₀ h₀ → fg.length = 20 → Dig fg → Xs X (execs (lawB.drop 9) X.env) [some (.ref wl), none, some (.ref a.sy), some (.ref a.o), some (.int (baseF fg)), none, some (.ref a.ka), st_, nm_, fx_, en_, some (.int (mostF fg)), none, none, none, none, none, none, none, none, none, none, none, none, none] (sA a fg 6) NoE RT) :
    Xs X (execs lawB X.env) [some (.ref wl), none, none, none, none, none, none, none, none, none, none, none, none, none, none, none, none, none, none, none, none, none, none, none, none] [(cf, .cell none), (ce, .cell none)] NoE RT := by
  have H := H0 0 0 0 0 0 0 0 0 0 0 0 0 0 0
  have nd := lawN2_nd
  subst hG
  have hn := H.n
  have l_script : Lc X.fd "script" 0 := lcK H.N nd rfl
  have k_figures : Ck X "figures" cf := ckK H.N nd 1 rfl (by rw [H.C]; kernel_rfl)
  have l_book : Lc X.fd "book" 2 := lcK H.N nd rfl
  have l_operators : Lc X.fd "operators" 3 := lcK H.N nd rfl
  have l_start : Lc X.fd "start" 4 := lcK H.N nd rfl
  have k_entries : Ck X "entries" ce := ckK H.N nd 5 rfl (by rw [H.C]; kernel_rfl)
  have l_kinds : Lc X.fd "kinds" 6 := lcK H.N nd rfl
  have l_step : Lc X.fd "step" 7 := lcK H.N nd rfl
  have l_name : Lc X.fd "name" 8 := lcK H.N nd rfl
  have l_fixes : Lc X.fd "fixes" 9 := lcK H.N nd rfl
  have l_entry : Lc X.fd "entry" 10 := lcK H.N nd rfl
  have l_most : Lc X.fd "most" 11 := lcK H.N nd rfl
  have g_law_figures : Gb X.fd "_law_figures" := gbK H.N nd 25 rfl
  have q_law_figures := I.fs.gl.f_law_figures
  have g_Symbols : Gb X.fd "Symbols" := gbK H.N nd 26 rfl
  have q_Symbols := I.fs.gl.f_Symbols
  have g_OperatorTable : Gb X.fd "OperatorTable" := gbK H.N nd 27 rfl
  have q_OperatorTable := I.fs.gl.f_OperatorTable
  have g_range : Gb X.fd "range" := gbK H.N nd 28 rfl
  have q_range := I.fs.gl.b_range
  have mSy_atom := I.fs.sy.m_atom
  have mSy_func := I.fs.sy.m_func
  have mOp_add := I.fs.op.m_add
  rw [show lawB = _ from (by conv => lhs; whnf)]
  walk_at "W"
  refine Cl.fn' (c_figures I (wn := 20) hl hz (by decide) fun za fg hfg hdig => ?_) (le_n hn (by decide))
  have hg := gfs hfg hdig
  refine ⟨_, _, by walk_at "U", ?_⟩
  walk_at "W"
  refine Cl.fn' (mk_Symbols I fun sy dsy tl an fl fn => ?_) (le_n hn (by decide))
  walk_at "W"
  refine Cl.fn' (mk_Operators I fun o od pt it st => ?_) (le_n hn (by decide))
  walk_at "W"
  refine Op2.itList rfl (by walk_at "M") (by decide) (by decide) (hg 0 (by decide)).1 ?_
  walk_at "W"
  refine Op2.mul (.of_right (by decide)) ?_
  walk_at "W"
  refine Op2.itList rfl (by walk_at "M") (by decide) (by decide) (hg 1 (by decide)).1 ?_
  walk_at "W"
  refine Ev.dictS fun ea => ?_
  refine ⟨_, _, by walk_at "U", ?_⟩
  walk_at "W"
  refine Ev.dictI fun ka => ?_
  walk_at "W"
  have H := H0 za sy dsy tl an fl fn o od pt it st ea ka
  have q := fun st_ nm_ fx_ en_ => q ⟨wl, cf, ce, za, sy, dsy, tl, an, fl, fn, o, od, pt, it, st, ea, ka⟩ fg st_ nm_ fx_ en_ rfl H hfg hdig
  clear H0
  refine Xs.forN (by walk_at "L") (fun _ => rfl) ?_
  walk_at "W"
  refine Cl.range1 fun rg => ?_
  refine ⟨rg, _, 6, aI wl cf ce za sy dsy tl an fl fn o od pt it st ea ka fg, rfl, rfl, by decide, ⟨_, _, _, _, rfl, by decide, rfl⟩, ?_, ?_⟩
  · clear q
    rintro i m σ' hi ⟨st_, nm_, fx_, en_, rfl, -, rfl⟩
    have hi6 : i < 6 := hi
    refine ⟨_, by walk_at "SA", ?_⟩
    refine Xs.weak ?_
    walk_at "W"
    refine Op2.itStr rfl (by omega) (by omega) (nm_at i hi6) ?_
    rw [show (⟨#[cpF i]⟩ : Str) = nmF i from rfl]
    walk_at "S"
    walk_at "S"
    refine Xs.cons (Xs.mono (Q := aQ wl cf ce za sy dsy tl an fl fn o od pt it st ea ka fg en_ i) ?_ ?_)
    · walk_at "W"
      refine ifE_c (fun h => ?_) (fun h => ?_)
      · have h : i < 3 := by simp at h; omega
        walk_at "W"
        intro la _
        walk_at "W"
        exact ⟨la, rfl, rfl, by unfold fixL; rw [if_pos h]⟩
      · have h : ¬ i < 3 := by simp at h; omega
        walk_at "W"
        intro la _
        walk_at "W"
        exact ⟨la, rfl, rfl, by unfold fixL; rw [if_neg h]⟩
    rintro f m' σ' ⟨la, rfl, rfl, rfl⟩
    walk_at "W"
    refine Op2.itList rfl (by walk_at "M") (by decide) (by decide) (hg 2 (by decide)).1 ?_
    walk_at "W"
    have g4 := hg (4 + i) (by omega)
    have e4 : ((4 : Int) + (i : Int)).toNat = 4 + i := by omega
    refine Op2.itList rfl (by walk_at "M") (by omega) (by omega) (by rw [e4]; exact g4.1) ?_
    walk_at "W"
    have m5 := Int.fmod_nonneg_of_pos (gf fg (4 + i)) (b := 5) (by decide)
    have m5' := Int.fmod_lt_of_pos (gf fg (4 + i)) (b := 5) (by decide)
    refine Op2.mod (by decide) ?_
    refine Op2.mul (mulOk m5 (by omega)) ?_
    walk_at "W"
    refine Op2.mod (by decide) ?_
    walk_at "W"
    rw [show (1 : Int) + Int.fmod (baseF fg + gf fg 2 * Int.fmod (gf fg (4 + i)) 5) 1200 = levF fg i from rfl]
    refine Op2.itList rfl (by walk_at "M") (by omega) (by omega) (by rw [e4]; exact g4.1) ?_
    walk_at "W"
    refine Op2.fdiv (by decide) (PyProof.noPylong_small (by decide)) ?_
    walk_at "W"
    refine Op2.mod (by decide) ?_
    have m2 := Int.fmod_nonneg_of_pos (Int.fdiv (gf fg (4 + i)) 5) (b := 2) (by decide)
    have m2' := Int.fmod_lt_of_pos (Int.fdiv (gf fg (4 + i)) 5) (b := 2) (by decide)
    refine Op2.itList rfl (by walk_at "M") m2 (by omega) (fixL_at (fg := fg) (i := i)) ?_
    walk_at "W"
    refine Cl.fn' (atom_F I hi6 ?_) (le_n hn (by decide))
    walk_at "W"
    refine Cl.fn' (add_F I hi6 ?_) (le_n hn (by decide))
    walk_at "W"
    refine Xs.setItemS rfl ?_
    walk_at "W"
    refine ⟨_, _, _, _, rfl, rfl, by walk_at "U", by unfold enF; simp; omega, by omega, ?_⟩
    rw [show AV.tup [.int (levF fg i), .str (fixF' fg i)] = (opF fg).ent i from rfl, en_put hi6]
    walk_at "W"
    refine Xs.setItemI rfl ?_
    walk_at "W"
    refine Cl.fn' (func_F I hi6 ?_) (le_n hn (by decide))
    walk_at "W"
    refine ⟨_, _, _, _, rfl, rfl, by walk_at "U", by unfold kdF; simp; omega, by omega, ?_⟩
    rw [kd_put]
    walk_at "W"
    exact ⟨_, .cut (.refl _), _, _, _, _, rfl, by omega, rfl⟩
  · rintro m σ' ⟨st_, nm_, fx_, en_, rfl, -, rfl⟩
    have q := q st_ nm_ fx_ en_
    iterate 6 walk_at "S"
    refine Xs.cons (Xs.mono (Q := aR wl cf ce za sy dsy tl an fl fn o od pt it st ea ka fg st_ nm_ fx_ en_) ?_ ?_)
    · walk_at "W"
      refine Op2.itList rfl (by walk_at "M") (by decide) (by decide) (hg 3 (by decide)).1 ?_
      walk_at "W"
      refine ifX_c (fun h => ?_) (fun h => ?_)
      · have h : 0 < gf fg 3 := by simpa using h
        walk_at "W"
        refine Op2.itList rfl (by walk_at "M") (by decide) (by decide) (hg 2 (by decide)).1 ?_
        walk_at "W"
        refine Op2.itList rfl (by walk_at "M") (by decide) (by decide) (hg 3 (by decide)).1 ?_
        walk_at "W"
        refine Op2.mod (by decide) ?_
        refine Op2.mul (mulOk (Int.fmod_nonneg_of_pos _ (by decide)) (Int.lt_trans (Int.fmod_lt_of_pos _ (by decide)) (by decide))) ?_
        walk_at "W"
        refine Op2.mod (by decide) ?_
        walk_at "W"
        refine Op2.itList rfl (by walk_at "M") (by decide) (by decide) (hg 3 (by decide)).1 ?_
        walk_at "W"
        refine Op2.fdiv (by decide) (PyProof.noPylong_small (by decide)) ?_
        walk_at "W"
        refine Op2.mod (by decide) ?_
        walk_at "W"
        exact ⟨rfl, by unfold mostF; rw [if_pos h], rfl⟩
      · have h : ¬ 0 < gf fg 3 := by simpa using h
        walk_at "W"
        exact ⟨rfl, by unfold mostF; rw [if_neg h], rfl⟩
    rintro f m' σ' ⟨rfl, rfl, rfl⟩
    refine thenX_n ?_
    exact q
open PySem PySem.W PySem.Calls PyProof.Rows PySem.SeqAt
noncomputable abbrev nms (l : List Nat) : List AV := l.map fun j => AV.str (nmF j)
noncomputable abbrev sB (a : Ad) (fa ba rw ta : Addr) (fg : List Int) : Hp := (ta, .list (TF fg)) :: (rw, .list (rowF fg)) :: (ba, .list (nms (bkL fg))) :: (fa, .list (nms (frL fg))) :: sA a fg 6
inductive bI (a : Ad) (fa ba rw ta z1 l1 : Addr) (fg : List Int) (nm_ fx_ en_ : Option AV) (i : Nat) (m : Loc) (σ' : Hp) : Prop
  | mk (st_ : Option AV) : m = [some (.ref a.wl), none, some (.ref a.sy), some (.ref a.o), some (.int (baseF fg)), none, some (.ref a.ka), st_, nm_, fx_, en_, some (.int (mostF fg)), some (.ref fa), some (.ref ba), some (.ref rw), some (.ref ta), none, none, none, none, none, none, none, none, none] → σ' = (ta, .list ((List.range i).map (tkF fg))) :: (rw, .list (rowF fg)) :: (z1, .list (nms (frL fg) ++ [.tup [.str "i", .int 5]])) :: (l1, .list [.tup [.str "i", .int 5]]) :: (ba, .list (nms (bkL fg))) :: (fa, .list (nms (frL fg))) :: sA a fg 6 → bI a fa ba rw ta z1 l1 fg nm_ fx_ en_ i m σ'
theorem b63 {i : Nat} (h : i < 10) : (i : Int) < 2 ^ 63 ∧ (i : Int) < 100000 ∧ i ≤ 100000 := by omega
theorem r60 {n : Nat} (h : n ≤ 4) : -(2 ^ 60) ≤ (n : Int) ∧ (n : Int) ≤ 2 ^ 60 := by omega
theorem ixOk {b i : Nat} (h : i < 4) (hb : b ≤ 16) : ((b : Int) + (0 + (i : Int))).toNat = b + i ∧ 0 ≤ (b : Int) + (0 + (i : Int)) ∧ (b : Int) + (0 + (i : Int)) < 2 ^ 63 ∧ b + i < 20 := by omega
theorem comp_at {L : List Nat} {i j : Nat} (h : L[i]? = some j) : (nms L)[i]? = some (.str (nmF j)) := by
  unfold nms; rw [List.getElem?_map, h]; rfl
theorem stB {G : Gl} (I : IsG G) {X : Fx} {a : Ad} {σ₀ : List Addr} {h₀ : Heap} (hG : X.G = G) (H : LX X a σ₀ h₀) {fg : List Int} (hfg : fg.length = 20) (hdig : Dig fg) {st_ nm_ fx_ en_ : Option AV}
    (q : ∀ (fa ba rw ta : Addr) (st_ : Option AV), Xs X (execs (lawB.drop 15) X.env) [some (.ref a.wl), none, some (.ref a.sy), some (.ref a.o), some (.int (baseF fg)), none, some (.ref a.ka), st_, nm_, fx_, en_, some (.int (mostF fg)), some (.ref fa), some (.ref ba), some (.ref rw), some (.ref ta), none, none, none, none, none, none, none, none, none] (sB a fa ba rw ta fg) NoE RT) :
    Xs X (execs (lawB.drop 9) X.env) [some (.ref a.wl), none, some (.ref a.sy), some (.ref a.o), some (.int (baseF fg)), none, some (.ref a.ka), st_, nm_, fx_, en_, some (.int (mostF fg)), none, none, none, none, none, none, none, none, none, none, none, none, none] (sA a fg 6) NoE RT := by
  have nd := lawN2_nd
  subst hG
  have hn := H.n
  have k_figures : Ck X "figures" a.cf := ckK H.N nd 1 rfl (by rw [H.C]; kernel_rfl)
  have l_step : Lc X.fd "step" 7 := lcK H.N nd rfl
  have l_fronts : Lc X.fd "fronts" 12 := lcK H.N nd rfl
  have l_backs : Lc X.fd "backs" 13 := lcK H.N nd rfl
  have l_row : Lc X.fd "row" 14 := lcK H.N nd rfl
  have l_tokens : Lc X.fd "tokens" 15 := lcK H.N nd rfl
  have g_range : Gb X.fd "range" := gbK H.N nd 28 rfl
  have q_range := I.fs.gl.b_range
  have g_len : Gb X.fd "len" := gbK H.N nd 29 rfl
  have q_len := I.fs.gl.b_len
  have hg := gfs hfg hdig
  rw [show lawB.drop 9 = _ from (by conv => lhs; whnf)]
  refine Xs.cons ?_
  refine Xs.assignComp (Sc1.ok (x := "step") ⟨rfl, rfl, by decide +kernel⟩ k_figures) (by walk_at "L") (swaps_comp H.K (by walk_at "L") (by decide) (by decide +kernel)) (fun _ => rfl) ?_ (by omega)
  walk_at "W"
  refine Op2.itList rfl (by walk_at "M") (by decide) (by decide) (hg 10 (by decide)).1 ?_
  walk_at "W"
  refine Op2.mod (by decide) ?_
  walk_at "W"
  rw [← (nFr_le fg).1]
  refine Cl.range1 fun rg => ?_
  have hN := (nFr_le fg).2
  refine ⟨_, nFr fg, fun i => .int (0 + (i : Int)), nms (frL fg), .inl ⟨rg, 0, _, rfl, rfl, by decide, by decide, (r60 hN).1, (r60 hN).2, by rw [Int.sub_zero]; rfl, fun _ => rfl⟩, by rw [List.length_map, frL_len], Nat.le_trans hN (by decide), ?_, fun fa => ⟨_, by walk_at "SA", ?_⟩⟩
  · refine EltOk.of ⟨rfl, rfl, by decide +kernel⟩ k_figures H.K fun X' hn' lc kc D acc i hi => ?_
    walk_at "W"
    obtain ⟨e1, e2, e3, e4⟩ := ixOk (b := 11) (Nat.lt_of_lt_of_le hi hN) (by decide)
    refine Op2.itList rfl (by walk_at "M") e2 e3 (by rw [show ((11 : Int) + (0 + (i : Int))).toNat = 11 + i from e1]; exact (hg (11 + i) e4).1) ?_
    walk_at "W"
    refine Op2.mod (by decide) ?_
    have hj := jFr_lt fg i
    rw [hj.2]
    refine Op2.itStr rfl (Int.le_trans (by decide) (Int.natCast_nonneg _)) (b63 (Nat.lt_trans hj.1 (by decide))).1 (nm_pre _ hj.1) ?_
    exact ⟨comp_at (frL_at hi), rfl⟩
  refine thenX_n ?_
  refine Xs.cons ?_
  refine Xs.assignComp (Sc1.ok (x := "step") ⟨rfl, rfl, by decide +kernel⟩ k_figures) (by walk_at "L") (swaps_comp H.K (by walk_at "L") (by decide) (by decide +kernel)) (fun _ => rfl) ?_ (by omega)
  walk_at "W"
  refine Op2.itList rfl (by walk_at "M") (by decide) (by decide) (hg 15 (by decide)).1 ?_
  walk_at "W"
  refine Op2.mod (by decide) ?_
  walk_at "W"
  rw [← (nBk_le fg).1]
  refine Cl.range1 fun rg => ?_
  have hN := (nBk_le fg).2
  refine ⟨_, nBk fg, fun i => .int (0 + (i : Int)), nms (bkL fg), .inl ⟨rg, 0, _, rfl, rfl, by decide, by decide, (r60 hN).1, (r60 hN).2, by rw [Int.sub_zero]; rfl, fun _ => rfl⟩, by rw [List.length_map, bkL_len], Nat.le_trans hN (by decide), ?_, fun ba => ⟨_, by walk_at "SA", ?_⟩⟩
  · refine EltOk.of ⟨rfl, rfl, by decide +kernel⟩ k_figures H.K fun X' hn' lc kc D acc i hi => ?_
    walk_at "W"
    obtain ⟨e1, e2, e3, e4⟩ := ixOk (b := 16) (Nat.lt_of_lt_of_le hi hN) (by decide)
    refine Op2.itList rfl (by walk_at "M") e2 e3 (by rw [show ((16 : Int) + (0 + (i : Int))).toNat = 16 + i from e1]; exact (hg (16 + i) e4).1) ?_
    walk_at "W"
    refine Op2.mod (by decide) ?_
    obtain ⟨-, -, k, hk, e5, e6⟩ := jBk_lt fg i
    rw [e6]
    refine Op2.itStr rfl (Int.le_trans (by decide) (Int.natCast_nonneg k)) (b63 (Nat.lt_trans hk (by decide))).1 (nm_post k hk) ?_
    exact ⟨(comp_at (bkL_at hi)).trans (by rw [e5]; rfl), rfl⟩
  refine thenX_n ?_
  refine Xs.cons ?_
  walk_at "W"
  intro l1 _
  have hNF := (nFr_le fg).2
  have hNB := (nBk_le fg).2
  refine Op2.cat (by walk_at "M") (by walk_at "M") (by simp [frL_len]; omega) fun z1 => ?_
  walk_at "W"
  refine Op2.cat (by walk_at "M") (by walk_at "M") (by simp [frL_len, bkL_len]; omega) fun rw => ?_
  rw [show nms (frL fg) ++ [AV.tup [AV.str "i", AV.int 5]] ++ nms (bkL fg) = rowF fg from rfl]
  walk_at "W"
  intro ta _
  have hrl := rowF_len fg
  walk_at "W"
  refine Xs.forN (by walk_at "L") (fun _ => rfl) ?_
  walk_at "W"
  refine Cl.range1 fun rg3 => ?_
  refine ⟨rg3, _, _, bI a fa ba rw ta z1 l1 fg nm_ fx_ en_, rfl, rfl, by omega, ⟨_, rfl, rfl⟩, ?_, ?_⟩
  · clear q st_
    rintro i m σ' hi ⟨st_, rfl, rfl⟩
    have hi' : i < (rowF fg).length := hi
    obtain ⟨b1, b2, b3⟩ := b63 (Nat.lt_of_lt_of_le hi' (show (rowF fg).length ≤ 10 by omega))
    have b0 := Int.natCast_nonneg i
    refine ⟨_, by walk_at "SA", ?_⟩
    walk_at "W"
    refine Cl.len (by walk_at "M") (by rw [List.length_map, frL_len]; omega) ?_
    rw [List.length_map, frL_len]
    walk_at "W"
    have hsn : (List.range i).map (tkF fg) ++ [tkF fg i] = (List.range (i + 1)).map (tkF fg) := by rw [List.range_succ, List.map_append]; rfl
    refine ifX_c (fun h => ?_) (fun h => ?_)
    · have h : i = nFr fg := by simp at h; omega
      walk_at "W"
      refine Op2.mul (mulOk b0 b2) ?_
      walk_at "W"
      refine Cl.append (by walk_at "U") (by simpa using b3) ?_
      walk_at "W"
      refine ⟨_, rfl, ?_⟩
      rw [← hsn]
      unfold tkF
      rw [if_neg (by omega), if_pos h]
    · have h : ¬ i = nFr fg := by simp at h; omega
      obtain ⟨x, hx, ht⟩ : ∃ x, (rowF fg)[i]? = some (.str x) ∧ tkF fg i = .tup [.str "name", .str x, .int (2 * (i : Int))] := by
        by_cases h2 : i < nFr fg
        · exact ⟨_, rowF_pre h2, by unfold tkF; rw [if_pos h2]; rfl⟩
        · obtain ⟨d, rfl⟩ : ∃ d, i = nFr fg + 1 + d := ⟨i - nFr fg - 1, by omega⟩
          exact ⟨_, rowF_post (by omega), by unfold tkF; rw [if_neg h2, if_neg h, show nFr fg + 1 + d - nFr fg - 1 = d by omega]; rfl⟩
      walk_at "W"
      refine Op2.itList rfl (by walk_at "M") b0 b1 (by rw [Int.toNat_natCast]; exact hx) ?_
      walk_at "W"
      refine Op2.mul (mulOk b0 b2) ?_
      walk_at "W"
      refine Cl.append (by walk_at "U") (by simpa using b3) ?_
      walk_at "W"
      refine ⟨_, rfl, ?_⟩
      rw [← hsn, ht]
  · clear st_
    rintro m σ' ⟨st_, rfl, rfl⟩
    walk_at "W"
    refine Op2.mul (mulOk (by omega) (by omega)) ?_
    walk_at "W"
    refine Cl.append (by walk_at "U") (by simp; omega) ?_
    refine thenX_n ?_
    exact Xs.le (.skip (.skip (.cut (.cut (.refl _))))) (q fa ba rw ta st_)
open PySem PySem.W PySem.Calls PyProof.Rows PySem.SeqAt
noncomputable def bdF (fg : List Int) (i : Nat) : Int := (preRun (mostF fg) ((psF fg).take i)).1
noncomputable def okTo (fg : List Int) (k : Nat) : Prop := ∀ i o, i < k → (psF fg)[i]? = some o → o.lev ≤ bdF fg i
inductive RefS (fg : List Int) (k : Nat) (r : Int) : Prop
  | ok : r = -1 → okTo fg k → RefS fg k r
  | no (j : Nat) (o : PrO) : j < k → r = j → okTo fg j → (psF fg)[j]? = some o → bdF fg j < o.lev → RefS fg k r
theorem bdF_succ {fg : List Int} {i : Nat} (h : i < nFr fg) : bdF fg (i + 1) = (opF fg).rgt (jFr fg i) := by
  unfold bdF
  rw [preRun_succ (psF_of (frL_at h))]; rfl
theorem okTo_succ {fg : List Int} {i : Nat} (h : i < nFr fg) (ok : okTo fg i) (hl : levF fg (jFr fg i) ≤ bdF fg i) : okTo fg (i + 1) := fun k o hk ho => by
  rcases Nat.lt_or_ge k i with h' | h'
  · exact ok k o h' ho
  · obtain rfl : k = i := by omega
    rw [psF_of (frL_at h)] at ho; cases ho; exact hl
theorem ok_lev {fg : List Int} {k : Nat} {o : PrO} (ho : (psF fg)[k]? = some o) : k < nFr fg := by
  have := (List.getElem?_eq_some_iff.mp ho).1
  rwa [psF_len] at this
inductive Pl2 (fg : List Int) : Prop
  | mk (q n : Nat) (r : PSt) : n ≤ 20 → Run (tok2 fg) (opF fg) n ⟨(psF fg).length + 1, (preRun (mostF fg) (psF fg)).1, .num 5, 0, (preRun (mostF fg) (psF fg)).2⟩ r → r.pl = nFr fg + 1 + q → q ≤ nBk fg →
    Bt (opF fg) (frL fg).reverse (bkL fg) (nFr fg) q r.term r.pr → r.pr ≤ mostF fg → (∀ o p, V (opF fg) (frL fg).reverse (bkL fg) (nFr fg) o p → p ≤ mostF fg → o ≤ q) → Pl2 fg
theorem plain2 {fg : List Int} (ok : okTo fg (nFr fg)) : Pl2 fg := by
  have hPl : (frL fg).reverse.length = nFr fg := by rw [List.length_reverse, frL_len]
  have h1 := (nFr_le fg).2
  have h2 := (nBk_le fg).2
  have hm := mostF_b fg
  have hch : ∀ i j, (frL fg).reverse[i]? = some j → (opF fg).lev j ≤ lim2 (opF fg) (frL fg).reverse (mostF fg) (i + 1) := fun i j h => by
    have hi := (List.getElem?_eq_some_iff.mp h).1
    rw [hPl] at hi
    rw [List.getElem?_reverse (by rw [frL_len]; exact hi), frL_len] at h
    have := ok (nFr fg - 1 - i) _ (by omega) (psF_of h)
    unfold bdF at this
    rw [preRun_lim _ (by omega)] at this
    rwa [ss2 hi] at this
  have h0 : 0 ≤ lim2 (opF fg) (frL fg).reverse (mostF fg) 0 := by
    unfold lim2
    split
    · rename_i j hj
      have h3 := frL_mem (fg := fg) (j := j) (by have := List.mem_of_getElem? hj; simpa using this)
      have hl := levF_b fg j
      show 0 ≤ (bnd (levF fg j) (fixF' fg j)).2
      rw [fix_pre h3, ← pr2_bnd]
      unfold bnd2
      split <;> omega
    · exact hm.1
  obtain ⟨q, n, r, g, hn, hr, e1, e2, e3, e4, e5⟩ := run2 (O := opF fg) (P := (frL fg).reverse) (B := bkL fg) (most := mostF fg) (tok := tok2 fg) (np := nFr fg) (fun q j h => tok2_B h) (tok2_F fg) (fun j _ => rfl) hch _ 0 0 (.num 5) 0 rfl (Nat.zero_le _) (Nat.zero_le _) .num h0
  rw [hPl] at e4
  rw [bkL_len] at e3
  have hpr := preRun_lim (fg := fg) (most := mostF fg) (nFr fg) (Nat.le_refl _)
  rw [List.take_of_length_le (by rw [psF_len]; exact Nat.le_refl _), Nat.sub_self] at hpr
  refine ⟨q, n, r, by rw [hPl, bkL_len] at hn; omega, ?_, e1, e3, e4, e5, fun o p v hp => ?_⟩
  · rw [hpr, psF_len]; exact hr
  · exact g.most_ (fun j _ => (lft_le fg j).1) (by rw [hPl]; exact v) hp
noncomputable abbrev sC (a : Ad) (fa ba rw ta gr z1 z2 : Addr) (kvs : List (List Int × AV)) (fg : List Int) : Hp := (gr, .dT kvs) :: (z2, .list ((bkL fg).map (opF fg).ent)) :: (z1, .list ((frL fg).map (opF fg).ent)) :: sB a fa ba rw ta fg
inductive cI (a : Ad) (fa ba rw ta : Addr) (fg : List Int) (nm_ fx_ en_ : Option AV) (i : Nat) (m : Loc) (σ' : Hp) : Prop
  | mk (st_ : Option AV) (rf : Int) : m = [some (.ref a.wl), none, some (.ref a.sy), some (.ref a.o), some (.int (baseF fg)), none, some (.ref a.ka), st_, nm_, fx_, en_, some (.int (mostF fg)), some (.ref fa), some (.ref ba), some (.ref rw), some (.ref ta), some (.int rf), some (.int (bdF fg i)), none, none, none, none, none, none, none] → σ' = sB a fa ba rw ta fg → RefS fg i rf → cI a fa ba rw ta fg nm_ fx_ en_ i m σ'
inductive cQ (a : Ad) (fa ba rw ta : Addr) (fg : List Int) (nm_ fx_ en_ : Option AV) (i : Nat) (f : AF) (m' : Loc) (σ' : Hp) : Prop
  | mk (rf : Int) : f = .next → m' = [some (.ref a.wl), none, some (.ref a.sy), some (.ref a.o), some (.int (baseF fg)), none, some (.ref a.ka), some (.int (i : Int)), nm_, fx_, en_, some (.int (mostF fg)), some (.ref fa), some (.ref ba), some (.ref rw), some (.ref ta), some (.int rf), some (.int (bdF fg i)), none, none, none, none, none, none, none] → σ' = sB a fa ba rw ta fg → RefS fg (i + 1) rf → cQ a fa ba rw ta fg nm_ fx_ en_ i f m' σ'
inductive cW (a : Ad) (fa ba rw ta gr z1 z2 : Addr) (kvs : List (List Int × AV)) (fg : List Int) (st_ nm_ fx_ en_ : Option AV) (q n : Nat) (m : Loc) (σ' : Hp) : Prop
  | mk (o : Nat) : n = o → q ≤ o → o ≤ nBk fg → m = [some (.ref a.wl), none, some (.ref a.sy), some (.ref a.o), some (.int (baseF fg)), none, some (.ref a.ka), st_, nm_, fx_, en_, some (.int (mostF fg)), some (.ref fa), some (.ref ba), some (.ref rw), some (.ref ta), some (.int (-1)), some (.int (bdF fg (nFr fg))), some (.ref gr), some (.int ((nFr fg + 1 + o : Nat) : Int)), none, none, none, none, none] → σ' = sC a fa ba rw ta gr z1 z2 kvs fg → cW a fa ba rw ta gr z1 z2 kvs fg st_ nm_ fx_ en_ q n m σ'
theorem getD_nms {L : List Nat} {i j : Nat} (h : L[i]? = some j) : (nms L).getD i .none = .str (nmF j) := by
  rw [List.getD_eq_getElem?_getD, comp_at h]; rfl
theorem stC {G : Gl} (I : IsG G) {X : Fx} {a : Ad} {σ₀ : List Addr} {h₀ : Heap} (hG : X.G = G) (H : LX X a σ₀ h₀) {fg : List Int} {fa ba rw ta : Addr} {st_ nm_ fx_ en_ : Option AV}
    (qok : okTo fg (nFr fg) → ∀ (gr z1 z2 : Addr) (kvs : List (List Int × AV)) (st_ bd_ : Option AV) (q n : Nat) (r : PSt), n ≤ 20 → Run (tok2 fg) (opF fg) n ⟨(psF fg).length + 1, (preRun (mostF fg) (psF fg)).1, .num 5, 0, (preRun (mostF fg) (psF fg)).2⟩ r → r.pl = nFr fg + 1 + q → q ≤ nBk fg →
      Bt (opF fg) (frL fg).reverse (bkL fg) (nFr fg) q r.term r.pr → r.pr ≤ mostF fg → Xs X (execs (lawB.drop 21) X.env) [some (.ref a.wl), none, some (.ref a.sy), some (.ref a.o), some (.int (baseF fg)), none, some (.ref a.ka), st_, nm_, fx_, en_, some (.int (mostF fg)), some (.ref fa), some (.ref ba), some (.ref rw), some (.ref ta), some (.int (-1)), bd_, some (.ref gr), some (.int ((nFr fg + 1 + q : Nat) : Int)), none, none, none, none, none] (sC a fa ba rw ta gr z1 z2 kvs fg) NoE RT)
    (qno : ∀ (j : Nat) (o : PrO), okTo fg j → (psF fg)[j]? = some o → bdF fg j < o.lev → ∀ (gr z1 z2 : Addr) (kvs : List (List Int × AV)) (st_ bd_ : Option AV), Xs X (execs (lawB.drop 21) X.env) [some (.ref a.wl), none, some (.ref a.sy), some (.ref a.o), some (.int (baseF fg)), none, some (.ref a.ka), st_, nm_, fx_, en_, some (.int (mostF fg)), some (.ref fa), some (.ref ba), some (.ref rw), some (.ref ta), some (.int (j : Int)), bd_, some (.ref gr), some (.int ((rowF fg).length : Int)), none, none, none, none, none] (sC a fa ba rw ta gr z1 z2 kvs fg) NoE RT) :
    Xs X (execs (lawB.drop 15) X.env) [some (.ref a.wl), none, some (.ref a.sy), some (.ref a.o), some (.int (baseF fg)), none, some (.ref a.ka), st_, nm_, fx_, en_, some (.int (mostF fg)), some (.ref fa), some (.ref ba), some (.ref rw), some (.ref ta), none, none, none, none, none, none, none, none, none] (sB a fa ba rw ta fg) NoE RT := by
  have nd := lawN2_nd
  subst hG
  have hn := H.n
  have k_entries : Ck X "entries" a.ce := ckK H.N nd 5 rfl (by rw [H.C]; kernel_rfl)
  have l_step : Lc X.fd "step" 7 := lcK H.N nd rfl
  have l_most : Lc X.fd "most" 11 := lcK H.N nd rfl
  have l_fronts : Lc X.fd "fronts" 12 := lcK H.N nd rfl
  have l_backs : Lc X.fd "backs" 13 := lcK H.N nd rfl
  have l_row : Lc X.fd "row" 14 := lcK H.N nd rfl
  have l_refused : Lc X.fd "refused" 16 := lcK H.N nd rfl
  have l_bound : Lc X.fd "bound" 17 := lcK H.N nd rfl
  have l_grid : Lc X.fd "grid" 18 := lcK H.N nd rfl
  have l_count : Lc X.fd "count" 19 := lcK H.N nd rfl
  have g_range : Gb X.fd "range" := gbK H.N nd 28 rfl
  have q_range := I.fs.gl.b_range
  have g_len : Gb X.fd "len" := gbK H.N nd 29 rfl
  have q_len := I.fs.gl.b_len
  have g_law_bound : Gb X.fd "_law_bound" := gbK H.N nd 30 rfl
  have q_law_bound := I.fs.gl.f_law_bound
  have g_law_grid : Gb X.fd "_law_grid" := gbK H.N nd 31 rfl
  have q_law_grid := I.fs.gl.f_law_grid
  have hNF := (nFr_le fg).2
  have hNB := (nBk_le fg).2
  have hrl := rowF_len fg
  have hfl : (nms (frL fg)).length = nFr fg := by rw [List.length_map, frL_len]
  rw [show lawB.drop 15 = _ from (by conv => lhs; whnf)]
  walk_at "W"
  refine Xs.forN (by walk_at "L") (fun _ => rfl) ?_
  walk_at "W"
  refine Cl.range1 fun rg => ?_
  refine ⟨rg, _, _, cI a fa ba rw ta fg nm_ fx_ en_, rfl, rfl, by omega, ⟨_, _, rfl, rfl, .ok rfl fun i o h => absurd h (Nat.not_lt_zero _)⟩, ?_, ?_⟩
  · clear qok qno st_
    rintro i m σ' hi ⟨st_, rf, rfl, rfl, hR⟩
    have hi' : i < nFr fg := hfl ▸ hi
    have hj := frL_at hi'
    have hj3 := (jFr_lt fg i).1
    have hen : aget (enF fg 6) (nmF (jFr fg i)) = some (.tup [.int (levF fg (jFr fg i)), .str (fixF' fg (jFr fg i))]) := enF_get (by omega)
    refine ⟨_, by walk_at "SA", ?_⟩
    refine Xs.cons (Xs.mono (Q := cQ a fa ba rw ta fg nm_ fx_ en_ i) ?_ ?_)
    · walk_at "W"
      rcases hR with ⟨rfl, ok⟩ | ⟨j, o, h1, rfl, h3, h4, h5⟩
      · refine andX_t (by decide) ?_
        walk_at "W"
        refine Op2.itList rfl (by walk_at "M") (by omega) (by omega) (by rw [Int.toNat_natCast]; exact comp_at hj) ?_
        refine Op2.itDS rfl (by omega) (by walk_at "M") hen ?_
        walk_at "W"
        by_cases h : bdF fg i < levF fg (jFr fg i)
        · refine andX_t (decide_eq_true h) ?_
          walk_at "W"
          refine ifX_t rfl ?_
          walk_at "W"
          exact ⟨_, rfl, rfl, rfl, .no i _ (by omega) rfl ok (psF_of hj) h⟩
        · refine andX_f (decide_eq_false h) ?_
          refine ifX_f rfl ?_
          walk_at "W"
          exact ⟨_, rfl, rfl, rfl, .ok rfl (okTo_succ hi' ok (by omega))⟩
      · refine andX_f (decide_eq_false (by omega)) ?_
        refine ifX_f rfl ?_
        walk_at "W"
        exact ⟨_, rfl, rfl, rfl, .no j o (by omega) rfl h3 h4 h5⟩
    clear hR rf
    rintro f m' σ' ⟨rf, rfl, rfl, rfl, hR⟩
    walk_at "W"
    refine Op2.itList rfl (by walk_at "M") (by omega) (by omega) (by rw [Int.toNat_natCast]; exact comp_at hj) ?_
    refine Op2.itDS rfl (by omega) (by walk_at "M") hen ?_
    walk_at "W"
    refine Cl.fn' (c_bound2 I ?_) (le_n hn (by decide))
    rw [show bnd2 (levF fg (jFr fg i)) (fixF' fg (jFr fg i)) = bdF fg (i + 1) from (bnd_pre (fg := fg) hj3).trans (bdF_succ hi').symm]
    walk_at "W"
    exact ⟨_, _, rfl, rfl, hR⟩
  clear st_
  rintro m σ' ⟨st_, rf, rfl, rfl, hR⟩
  rw [hfl] at hR ⊢
  walk_at "W"
  refine Ev.listComp (Sc1.ok (x := "name") ⟨rfl, rfl, by decide +kernel⟩ k_entries) (fun _ => rfl) ?_ (by omega)
  walk_at "W"
  refine ⟨_, nFr fg, fun i => (nms (frL fg)).getD i .none, (frL fg).map (opF fg).ent, .inr ⟨fa, _, rfl, rfl, by walk_at "M", by rw [List.length_map, frL_len], fun _ => rfl⟩, by rw [List.length_map, frL_len], by omega, ?_, fun z1 => ?_⟩
  · refine EltOk.of ⟨rfl, rfl, by decide +kernel⟩ k_entries H.K fun X' hn' lc kc D acc i hi => ?_
    have hj := frL_at hi
    rw [getD_nms hj]
    walk_at "W"
    refine Op2.itDS rfl (by omega) (by walk_at "M") (enF_get (by have := (jFr_lt fg i).1; omega)) ?_
    exact ⟨by rw [List.getElem?_map, hj]; rfl, rfl⟩
  walk_at "W"
  refine Ev.listComp (Sc1.ok (x := "name") ⟨rfl, rfl, by decide +kernel⟩ k_entries) (fun _ => rfl) ?_ (by omega)
  walk_at "W"
  refine ⟨_, nBk fg, fun i => (nms (bkL fg)).getD i .none, (bkL fg).map (opF fg).ent, .inr ⟨ba, _, rfl, rfl, by walk_at "M", by rw [List.length_map, bkL_len], fun _ => rfl⟩, by rw [List.length_map, bkL_len], by omega, ?_, fun z2 => ?_⟩
  · refine EltOk.of ⟨rfl, rfl, by decide +kernel⟩ k_entries H.K fun X' hn' lc kc D acc i hi => ?_
    have hj := bkL_at hi
    rw [getD_nms hj]
    walk_at "W"
    refine Op2.itDS rfl (by omega) (by walk_at "M") (enF_get (jBk_lt fg i).2.1) ?_
    exact ⟨by rw [List.getElem?_map, hj]; rfl, rfl⟩
  walk_at "W"
  refine Cl.fn' (c_grid I (O := opF fg) (P := (frL fg).reverse) (B := bkL fg) (by rw [List.length_reverse, frL_len]; omega) (by rw [bkL_len]; omega) (grE_F fg) (by rw [List.reverse_reverse]; walk_at "M") (by walk_at "M") fun gr kvs ht => ?_) (le_n hn (by decide))
  walk_at "W"
  have hPl : (frL fg).reverse.length = nFr fg := by rw [List.length_reverse, frL_len]
  have hm := mostF_b fg
  rcases hR with ⟨rfl, ok⟩ | ⟨j, o, h1, rfl, h3, h4, h5⟩
  · obtain ⟨q, n, r, e1, e2, e3, e4, e5, e6, e7⟩ := plain2 ok
    have qok := fun st_ bd_ => qok ok gr z1 z2 kvs st_ bd_ q n r e1 e2 e3 e4 e5 e6
    refine Xs.while (cW a fa ba rw ta gr z1 z2 kvs fg st_ nm_ fx_ en_ q) ?_ (nBk fg) ⟨_, rfl, e4, Nat.le_refl _, by rw [hrl], rfl⟩
    rintro o m σ' ⟨o, rfl, ho1, ho2, rfl, rfl⟩
    obtain ⟨v, hv1, hv2⟩ := ht.get (a := nFr fg) (b := o) (by omega) (by omega) (by rw [bkL_len]; exact ho2)
    have hv2 := hv2 (mostF fg) (by omega)
    walk_at "W"
    refine andX_t (by decide) ?_
    walk_at "W"
    rw [hfl, show ((nFr fg + 1 + o : Nat) : Int) - (nFr fg : Int) - 1 = (o : Int) from by omega, hv1]
    walk_at "W"
    by_cases hle : v ≤ mostF fg
    · refine andX_f (decide_eq_false (by omega : ¬ mostF fg < v)) ?_
      obtain ⟨p, hp1, hp2⟩ := hv2.mp hle
      obtain rfl : o = q := by have := e7 o p hp1 hp2; omega
      exact qok _ _
    · refine andX_t (decide_eq_true (by omega : mostF fg < v)) ?_
      have hne : o ≠ q := fun e => hle (hv2.mpr (e ▸ ⟨_, ⟨_, e5⟩, e6⟩))
      clear qok e1 e2 e3 e4 e5 e6 e7 hrl hPl hfl hNF hNB hv2 hm
      walk_at "W"
      show Xs _ _ _ _ _ _
      walk_at "W"
      refine Xs.aug (by walk_at "L") (by walk_at "GA") ?_
      walk_at "W"
      refine Op2.isub ?_
      rw [show ((nFr fg + 1 + o : Nat) : Int) - 1 = ((nFr fg + 1 + (o - 1) : Nat) : Int) from by omega]
      walk_at "W"
      exact ⟨o - 1, by omega, o - 1, rfl, by omega, by omega, rfl, rfl⟩
  · have qno := fun st_ bd_ => qno j o h3 h4 h5 gr z1 z2 kvs st_ bd_
    refine Xs.while (fun n m σ' => m = [some (.ref a.wl), none, some (.ref a.sy), some (.ref a.o), some (.int (baseF fg)), none, some (.ref a.ka), st_, nm_, fx_, en_, some (.int (mostF fg)), some (.ref fa), some (.ref ba), some (.ref rw), some (.ref ta), some (.int (j : Int)), some (.int (bdF fg (nFr fg))), some (.ref gr), some (.int ((rowF fg).length : Int)), none, none, none, none, none] ∧ σ' = sC a fa ba rw ta gr z1 z2 kvs fg) ?_ 0 ⟨rfl, rfl⟩
    rintro n m σ' ⟨rfl, rfl⟩
    walk_at "W"
    refine andX_f (decide_eq_false (by omega)) ?_
    exact qno _ _
open PySem PySem.W PySem.Calls PyProof.Rows PySem.SeqAt
theorem penv_F {fg : List Int} {S : Hp} {p pn sy o ha dsy tl an fl fn od pt it st : Addr} (h1 : (p, .inst 517 pn) ∈ S) (h2 : (ha, .list (TF fg)) ∈ S) (h3 : (sy, .inst 154 dsy) ∈ S) (h4 : (dsy, .ns nmSy [some (.ref tl), some (.ref an), some (.ref fl), some (.ref fn)]) ∈ S) (h5 : (an, .dS (anD (tsF 6))) ∈ S) (h6 : (fn, .dT (fnD (fkF 6))) ∈ S) (h7 : (o, .inst 286 od) ∈ S)
    (h8 : (od, .ns nmOp [some (.ref sy), some (.ref pt), some (.ref it), some (.ref st)]) ∈ S) (h9 : (it, .dI ki0) ∈ S) (h10 : (st, .dI (ksF fg 6)) ∈ S) : PEnv (tok2 fg) (opF fg) S p pn sy o ha dsy tl an fl fn od pt it st (TF fg) (anD (tsF 6)) (fnD (fkF 6)) ki0 (ksF fg 6) := by
  have key : ∀ i j, tok2 fg i = some (.op j) → 3 ≤ j ∧ j < 6 := fun i j h => by
    obtain ⟨q, -, hq, -⟩ := tok2_op h
    exact bkL_mem (List.mem_of_getElem? hq)
  refine ⟨h1, h2, h3, h4, h5, h6, h7, h8, h9, h10, fun i t h => tok2_T h, fun i j h => ?_, fun i j h hi => ?_, fun i j h _ => ?_, fun i j h => ?_, fun i j h => rfl⟩
  · have := key i j h
    exact ⟨num_F this.2, by show 0 ≤ 29 + (j : Int); omega⟩
  · cases hi
  · have := key i j h
    refine ⟨aget_none ?_, ks_yes this.1 this.2, fn_F this.2⟩
    intro hm
    have : (opF fg).num j = 7 := by simpa using hm
    have : 29 + (j : Int) = 7 := this
    omega
  · show 0 ≤ 32 + (j : Int); omega
theorem stNo {G : Gl} (I : IsG G) {X : Fx} {a : Ad} {σ₀ : List Addr} {h₀ : Heap} (hG : X.G = G) (H : LX X a σ₀ h₀) {fg : List Int} {fa ba rw ta : Addr} {nm_ fx_ en_ : Option AV}
    {j : Nat} {o : PrO} (h3 : okTo fg j) (h4 : (psF fg)[j]? = some o) (h5 : bdF fg j < o.lev) {gr z1 z2 : Addr} {kvs : List (List Int × AV)} {st_ bd_ : Option AV} :
    Xs X (execs (lawB.drop 21) X.env) [some (.ref a.wl), none, some (.ref a.sy), some (.ref a.o), some (.int (baseF fg)), none, some (.ref a.ka), st_, nm_, fx_, en_, some (.int (mostF fg)), some (.ref fa), some (.ref ba), some (.ref rw), some (.ref ta), some (.int (j : Int)), bd_, some (.ref gr), some (.int ((rowF fg).length : Int)), none, none, none, none, none] (sC a fa ba rw ta gr z1 z2 kvs fg) NoE RT := by
  have nd := lawN2_nd
  subst hG
  have hn := H.n
  have l_most : Lc X.fd "most" 11 := lcK H.N nd rfl
  have l_tokens : Lc X.fd "tokens" 15 := lcK H.N nd rfl
  have l_refused : Lc X.fd "refused" 16 := lcK H.N nd rfl
  have l_handed : Lc X.fd "handed" 20 := lcK H.N nd rfl
  have l_parser : Lc X.fd "parser" 21 := lcK H.N nd rfl
  have l_fault : Lc X.fd "fault" 24 := lcK H.N nd rfl
  have l_book : Lc X.fd "book" 2 := lcK H.N nd rfl
  have l_operators : Lc X.fd "operators" 3 := lcK H.N nd rfl
  have g_Parser : Gb X.fd "Parser" := gbK H.N nd 32 rfl
  have q_Parser := I.fs.gl.f_Parser
  have g_SyntaxFault : Gb X.fd "SyntaxFault" := gbK H.N nd 33 rfl
  have q_SyntaxFault := I.fs.gl.f_SyntaxFault
  have mPa_parse := I.fs.pa.m_parse
  have hNF := (nFr_le fg).2
  have hNB := (nBk_le fg).2
  have hrl := rowF_len fg
  have hr9 : (rowF fg).length ≤ 9 := by omega
  have ht10 : (TF fg).length ≤ 10 := by rw [TF_len]; exact Nat.succ_le_succ hr9
  rw [show lawB.drop 21 = _ from (by conv => lhs; whnf)]
  walk_at "W"
  refine ⟨ta, TF fg, rfl, .own (by walk_at "M"), Nat.le_trans ht10 (by decide), fun ha => ?_⟩
  walk_at "W"
  refine Cl.fn' (mk_Parser I fun p pn fr nu na co => ?_) (le_n hn (by decide))
  walk_at "W"
  have PE := (penv_F (fg := fg) (p := p) (pn := pn) (sy := a.sy) (o := a.o) (ha := ha) (dsy := a.dsy) (tl := a.tl) (an := a.an) (fl := a.fl) (fn := a.fn) (od := a.od) (pt := a.pt) (it := a.it) (st := a.st) (S := (p, .inst 517 pn) :: (ha, .list (TF fg)) :: sC a fa ba rw ta gr z1 z2 kvs fg) (by walk_at "M") (by walk_at "M") (by walk_at "M") (by walk_at "M") (by walk_at "M") (by walk_at "M") (by walk_at "M") (by walk_at "M") (by walk_at "M") (by walk_at "M"))
  have hpt : (a.pt, AO.dI (kpF fg 6)) ∈ (p, AO.inst 517 pn) :: (ha, .list (TF fg)) :: sC a fa ba rw ta gr z1 z2 kvs fg := by walk_at "M"
  have hjl := ok_lev h4
  refine Xs.tryAs (C := 51) (EQ := fun dxe σ' => σ' = (dxe, .ns nmSF [some (.str "priority"), some (.int o.pos), some (.int 0), some (.int 0)]) :: (p, .inst 517 pn) :: (ha, .list (TF fg)) :: sC a fa ba rw ta gr z1 z2 kvs fg) H.R I.sf.ex g_SyntaxFault q_SyntaxFault l_fault ?_ ?_
  · intro pp
    have hYR : (X.at pp).R = some pp := rfl
    have IY : IsG (X.at pp).G := I
    have hYn : (X.at pp).n = 100 := hn
    have l1 : Lc (X.at pp).fd "most" 11 := l_most
    have l2 : Lc (X.at pp).fd "parser" 21 := l_parser
    have mY : MtN (X.at pp).G.K 517 nmPa "parse" 397 := mPa_parse
    rw [show X.env = (X.at pp).env from rfl]
    revert hYR IY hYn l1 l2 mY
    generalize X.at pp = Y
    intro hYR IY hYn l1 l2 mY
    walk_at "W"
    exact Cl.fnR' hYR (r_parse2 IY PE hpt (preE_F fg) h4 h3 h5 (lim0 := 1200) (fr := fr) (nu := nu) (na := na) (co := co) fun dxe => rfl) (le_n hYn (by decide)) rfl
  · rintro e dx σ' rfl
    refine ⟨_, by walk_at "SA", ?_⟩
    have l1 : Lc (X.hd e).fd "fault" 24 := l_fault
    have l2 : Lc (X.hd e).fd "refused" 16 := l_refused
    have l3 : Lc (X.hd e).fd "handed" 20 := l_handed
    have l4 : Lc (X.hd e).fd "tokens" 15 := l_tokens
    have SF : SfF (X.hd e).G.K := I.sf
    have hZn : (X.hd e).n = 0 := rfl
    rw [show X.env = (X.hd e).env from rfl]
    revert l1 l2 l3 l4 SF hZn
    generalize X.hd e = Z
    intro l1 l2 l3 l4 SF hZn
    have hpos : o.pos = 2 * (j : Int) := by
      obtain ⟨k, -, rfl⟩ := psF_at h4; rfl
    walk_at "W"
    refine Op1.heldR (by walk_at "M") (by walk_at "M") SF.a_kind SF.st (by walk_at "GA") rfl ?_
    walk_at "W"
    refine Op1.heldR (by walk_at "M") (by walk_at "M") SF.a_at SF.st (by walk_at "GA") rfl ?_
    walk_at "W"
    refine Op2.mul (mulOk (by omega) (by omega)) ?_
    walk_at "W"
    refine Op2.eqT (n := 0) (k := 0) rfl rfl (by omega) ?_
    rw [hpos, eqvs_self (n := 0) rfl]
    walk_at "W"
    refine andV_t rfl ?_
    walk_at "W"
    refine Op2.eqL (n := 1) (k := 1) (by walk_at "M") (by walk_at "M") (pls_TF fg) (pls_TF fg) (by omega) ?_
    rw [eqvs_self (pls_TF fg)]
    walk_at "W"
    exact ⟨by simp, _, rfl, fun _ => rfl⟩
theorem stOk {G : Gl} (I : IsG G) {X : Fx} {a : Ad} {σ₀ : List Addr} {h₀ : Heap} (hG : X.G = G) (H : LX X a σ₀ h₀) {fg : List Int} {fa ba rw ta : Addr} {nm_ fx_ en_ : Option AV}
    (ok : okTo fg (nFr fg)) {gr z1 z2 : Addr} {kvs : List (List Int × AV)} {st_ bd_ : Option AV} {q n : Nat} {r : PSt} (e1 : n ≤ 20) (e2 : Run (tok2 fg) (opF fg) n ⟨(psF fg).length + 1, (preRun (mostF fg) (psF fg)).1, .num 5, 0, (preRun (mostF fg) (psF fg)).2⟩ r) (e3 : r.pl = nFr fg + 1 + q) (e4 : q ≤ nBk fg)
    (e5 : Bt (opF fg) (frL fg).reverse (bkL fg) (nFr fg) q r.term r.pr) (e6 : r.pr ≤ mostF fg) :
    Xs X (execs (lawB.drop 21) X.env) [some (.ref a.wl), none, some (.ref a.sy), some (.ref a.o), some (.int (baseF fg)), none, some (.ref a.ka), st_, nm_, fx_, en_, some (.int (mostF fg)), some (.ref fa), some (.ref ba), some (.ref rw), some (.ref ta), some (.int (-1)), bd_, some (.ref gr), some (.int ((nFr fg + 1 + q : Nat) : Int)), none, none, none, none, none] (sC a fa ba rw ta gr z1 z2 kvs fg) NoE RT := by
  have nd := lawN2_nd
  subst hG
  have hn := H.n
  have l_most : Lc X.fd "most" 11 := lcK H.N nd rfl
  have l_kinds : Lc X.fd "kinds" 6 := lcK H.N nd rfl
  have k_entries : Ck X "entries" a.ce := ckK H.N nd 5 rfl (by rw [H.C]; kernel_rfl)
  have l_row : Lc X.fd "row" 14 := lcK H.N nd rfl
  have l_count : Lc X.fd "count" 19 := lcK H.N nd rfl
  have l_tokens : Lc X.fd "tokens" 15 := lcK H.N nd rfl
  have l_refused : Lc X.fd "refused" 16 := lcK H.N nd rfl
  have l_handed : Lc X.fd "handed" 20 := lcK H.N nd rfl
  have l_parser : Lc X.fd "parser" 21 := lcK H.N nd rfl
  have l_term : Lc X.fd "term" 22 := lcK H.N nd rfl
  have l_level : Lc X.fd "level" 23 := lcK H.N nd rfl
  have l_fault : Lc X.fd "fault" 24 := lcK H.N nd rfl
  have l_book : Lc X.fd "book" 2 := lcK H.N nd rfl
  have l_operators : Lc X.fd "operators" 3 := lcK H.N nd rfl
  have g_Parser : Gb X.fd "Parser" := gbK H.N nd 32 rfl
  have q_Parser := I.fs.gl.f_Parser
  have g_SyntaxFault : Gb X.fd "SyntaxFault" := gbK H.N nd 33 rfl
  have q_SyntaxFault := I.fs.gl.f_SyntaxFault
  have g_law_peeled : Gb X.fd "_law_peeled" := gbK H.N nd 34 rfl
  have q_law_peeled := I.fs.gl.f_law_peeled
  have mPa_parse := I.fs.pa.m_parse
  have mPa_peek := I.fs.pa.m_peek
  have aPa_place := I.fs.pa.a_place
  have hNF := (nFr_le fg).2
  have hNB := (nBk_le fg).2
  have hrl := rowF_len fg
  have hr9 : (rowF fg).length ≤ 9 := by omega
  have ht10 : (TF fg).length ≤ 10 := by rw [TF_len]; exact Nat.succ_le_succ hr9
  rw [show lawB.drop 21 = _ from (by conv => lhs; whnf)]
  walk_at "W"
  refine ⟨ta, TF fg, rfl, .own (by walk_at "M"), Nat.le_trans ht10 (by decide), fun ha => ?_⟩
  walk_at "W"
  refine Cl.fn' (mk_Parser I fun p pn fr nu na co => ?_) (le_n hn (by decide))
  walk_at "W"
  have PE := (penv_F (fg := fg) (p := p) (pn := pn) (sy := a.sy) (o := a.o) (ha := ha) (dsy := a.dsy) (tl := a.tl) (an := a.an) (fl := a.fl) (fn := a.fn) (od := a.od) (pt := a.pt) (it := a.it) (st := a.st) (S := (p, .inst 517 pn) :: (ha, .list (TF fg)) :: sC a fa ba rw ta gr z1 z2 kvs fg) (by walk_at "M") (by walk_at "M") (by walk_at "M") (by walk_at "M") (by walk_at "M") (by walk_at "M") (by walk_at "M") (by walk_at "M") (by walk_at "M") (by walk_at "M"))
  have hpt : (a.pt, AO.dI (kpF fg 6)) ∈ (p, AO.inst 517 pn) :: (ha, .list (TF fg)) :: sC a fa ba rw ta gr z1 z2 kvs fg := by walk_at "M"
  refine Xs.tryAs (C := 51) (EQ := fun _ _ => False) H.R I.sf.ex g_SyntaxFault q_SyntaxFault l_fault ?_ (fun _ _ _ h => h.elim)
  intro pp
  have IY : IsG (X.at pp).G := I
  have hYn : (X.at pp).n = 100 := hn
  have l1 : Lc (X.at pp).fd "most" 11 := l_most
  have l2 : Lc (X.at pp).fd "parser" 21 := l_parser
  have l3 : Lc (X.at pp).fd "term" 22 := l_term
  have l4 : Lc (X.at pp).fd "level" 23 := l_level
  have mY : MtN (X.at pp).G.K 517 nmPa "parse" 397 := mPa_parse
  rw [show execs _ X.env = execs _ (X.at pp).env from rfl]
  revert IY hYn l1 l2 l3 l4 mY
  generalize X.at pp = Y
  intro IY hYn l1 l2 l3 l4 mY
  walk_at "W"
  refine Cl.fn' (c_parse2 IY PE hpt (preE_F fg) (fun _ => rfl) (k0 := 5) (by rw [psF_len]; unfold tok2; rw [if_pos rfl]) (fun i o ho => ok i o (ok_lev ho) ho) e2 (by rw [psF_len]; omega) (lim0 := 1200) (fr := fr) (nu := nu) (na := na) (co := co) ?_) (le_n hYn (by decide))
  have hc : nFr fg + 1 + q ≤ (rowF fg).length := by omega
  have hc9 := Nat.le_trans hc hr9
  obtain ⟨b1, b2, b3⟩ := b63 (Nat.lt_succ_of_le hc9)
  have b0 := Int.natCast_nonneg (nFr fg + 1 + q)
  walk_at "W"
  refine orX_f (by decide) ?_
  walk_at "W"
  refine Cl.fn' (c_peeled I (O := opF fg) (P := (frL fg).reverse) (B := bkL fg) (kvs := kdF 6) (evs := enF fg 6) (by walk_at "M") (by walk_at "M") (peelE_F fg) e5 e6 (by omega) fun z => ?_) (le_n hn (by decide))
  rw [List.take_of_length_le (by rw [List.length_reverse, frL_len]; exact Nat.le_refl _), List.reverse_reverse]
  have hrow := row_take fg e4
  rw [show ((frL fg).map fun j => AV.str ((opF fg).nm j)) ++ [(Tr.num 5).av] ++ ((bkL fg).take q).map (fun j => AV.str ((opF fg).nm j)) = (rowF fg).take (nFr fg + 1 + q) from hrow.symm]
  walk_at "W"
  refine ⟨rw, rowF fg, _, rfl, rfl, b0, .own (by walk_at "M"), Nat.le_trans hr9 (by decide), fun y2 => ?_⟩
  rw [Int.toNat_natCast]
  walk_at "W"
  refine Op2.neTL2 (n := 1) (k := 1) (pls_row fg _) (pls_row fg _) (by omega) ?_
  rw [eqvs_self (pls_row fg _), beq_self_eq_true]
  walk_at "W"
  refine orX_f rfl ?_
  walk_at "W"
  refine ifX_f rfl ?_
  walk_at "W"
  obtain ⟨tl', htl, hpt'⟩ := TF_tup (fg := fg) (i := nFr fg + 1 + q) hc
  rw [e3]
  refine Cl.fn' (c_peek I (FO := (y2, .list ((rowF fg).take (nFr fg + 1 + q))) :: (z, .list ((rowF fg).take (nFr fg + 1 + q))) :: []) (S := (fr, .list (frl [])) :: (p, .inst 517 pn) :: (ha, .list (TF fg)) :: sC a fa ba rw ta gr z1 z2 kvs fg) (by walk_at "M") (T := TF fg) (by walk_at "M") b0 (Int.lt_of_le_of_lt (Int.ofNat_le.mpr hc9) (by decide)) (by rw [Int.toNat_natCast]; exact htl) ?_) (le_n hn (by decide))
  walk_at "W"
  refine Op2.itList rfl (by walk_at "M") b0 b1 (by rw [Int.toNat_natCast]; exact htl) ?_
  walk_at "W"
  refine Op2.eqT (n := 0) (k := 0) hpt' hpt' (by omega) ?_
  rw [eqvs_self hpt']
  refine andV_t rfl ?_
  walk_at "W"
  refine andV_t (by simp) ?_
  walk_at "W"
  refine Op2.eqL (n := 1) (k := 1) (by walk_at "M") (by walk_at "M") (pls_TF fg) (pls_TF fg) (by omega) ?_
  rw [eqvs_self (pls_TF fg)]
  walk_at "W"
  rfl
open PySem PySem.W PySem.Calls PyProof.Rows PySem.SeqAt
theorem law_xs2 {G : Gl} (I : IsG G) {wl cf ce : Addr} {ns : List Int} (hl : ∀ σ, LAt G σ wl (ns.map .int)) (hz : ns.length ≤ 100) {X : Fx} {σ₀ : List Addr} {h₀ : Heap} (hG : X.G = G) (H0 : ∀ za sy dsy tl an fl fn o od pt it st ea ka, LX X ⟨wl, cf, ce, za, sy, dsy, tl, an, fl, fn, o, od, pt, it, st, ea, ka⟩ σ₀ h₀) :
    Xs X (execs lawB X.env) [some (.ref wl), none, none, none, none, none, none, none, none, none, none, none, none, none, none, none, none, none, none, none, none, none, none, none, none] [(cf, .cell none), (ce, .cell none)] NoE RT :=
  stA I hl hz hG H0 fun a fg st_ nm_ fx_ en_ hw H hfg hdig => by
    subst hw
    exact stB I hG H hfg hdig fun fa ba rw ta st_ => stC I hG H (fun ok gr z1 z2 kvs st_ bd_ q n r e1 e2 e3 e4 e5 e6 => stOk I hG H ok e1 e2 e3 e4 e5 e6) fun j o h3 h4 h5 gr z1 z2 kvs st_ bd_ => stNo I hG H h3 h4 h5
theorem to_goal {X : Fx} {m : Loc} {σ : Hp} {t : Sem Flow} {s : Shared} {R : Flow → Shared → Prop} {E : Value → Shared → Prop} (h : Xs X t m σ NoE RT) (S : St X m σ s)
    (hR : ∀ s' : Shared, (∀ b o, X.G.W0.get? b = some o → s'.heap.get? b = some o) → s'.gens = #[] → s'.os = X.G.os0 → R (.ret (.bool true)) s') : wpAny X.M X.A t R E s := by
  refine xs_then (h s S) (fun f s' gg m' σ' r' S' P' q => ?_) fun e s' he => no_EP he
  cases gg with
  | ret v =>
    obtain ⟨w, rfl, rw⟩ := r'
    obtain rfl : v = .bool true := q
    obtain rfl := rw.boolE
    exact hR s' S'.hr.base S'.gens S'.os
  | next => cases (show AV.none = .bool true from q)
  | brk => exact q.elim
  | cont => exact q.elim
theorem IntsAre.vrs {h : Heap} : ∀ {vs : List Value} {ns : List Int}, IntsAre vs ns → VRs h (ns.map AV.int) vs
  | _, _, .nil => .nil
  | _, _, .cons n t r => .cons .intI (IntsAre.vrs r)
theorem fin_law2 {prog : Program} {w : World} {s₁ : Shared} {h₁ : Heap} {L fa wl cf ce : Addr} {vs : List Value} {ns : List Int} {fd : FuncData} {A : Around} {env : Env} {R : Flow → Shared → Prop} {E : Value → Shared → Prop} {g tk d os} {k : Str → Option NameKind} {l : List (Str × Value)} {oe of_ : Obj}
    (henv : env = { callEnv fd L fa with cells := [(("entries" : Str), ce), (("figures" : Str), cf)], func := some fa, frame := some L }) (hN : fd.scope.names = lawN2) (hK : fd.scope.kind = .function) (hGl : fd.globals = mainGlobals) (hB : fd.builtins = builtinsNs) (hA0 : A.frames = some [env])
    (KX : (KK w.params).In s₁.heap) (T : ∃ p loose mg mb, TopRead p loose mg mb s₁.heap) (hI : IntsAre vs ns) (hL : s₁.heap.IsList wl vs.toArray) (hz : ns.length ≤ 100) (hA : Rm A 100)
    (hl : l = [(("script" : Str), Value.ref wl)]) (hk : k "script" = some .local) (F : Fr s₁.heap L h₁ (bindL k l fun x => none)) (N : News s₁.heap L h₁ [(ce, oe), (cf, of_)]) (he : oe.data = .cell (bindC k l (fun x => none) "entries")) (hf : of_.data = .cell (bindC k l (fun x => none) "figures"))
    (hcf : cf = L + 1) (hce : ce = L + 1 + 1) (hLe : L = s₁.heap.objs.size) (hg : g = #[]) (ho : os = s₁.os)
    (hR : ∀ s' : Shared, (∀ b o, s₁.heap.get? b = some o → s'.heap.get? b = some o) → s'.gens = #[] → s'.os = s₁.os → R (.ret (.bool true)) s') :
    wpAny (model prog w) A (execs lawB env) R E { heap := h₁, gens := g, drawn := d, toks := tk, os := os } := by
  subst henv hg ho hl
  have I : IsG ⟨prog, w, s₁.heap, KK w.params, s₁.os⟩ := ⟨rfl, ⟨KX, T⟩⟩
  have lo : 2 ≤ L := by
    have hx : ∃ o, (KK w.params).lookup 549 = some o := ⟨_, rfl⟩
    obtain ⟨o, h⟩ := hx
    have h2 : 549 < s₁.heap.objs.size := Heap.lt_size (KX _ _ h)
    rw [hLe]; exact Nat.le_trans (by decide) (Nat.le_of_lt h2)
  have n1 : cf ≠ ce := by rw [hcf, hce]; exact Nat.ne_of_lt (Nat.lt_succ_self _)
  have n2 : L ≠ cf := by rw [hcf]; exact Nat.ne_of_lt (Nat.lt_succ_self _)
  have n3 : L ≠ ce := by rw [hce]; exact Nat.ne_of_lt (Nat.lt_succ_of_lt (Nat.lt_succ_self _))
  have l1 : 2 ≤ cf := by rw [hcf]; exact Nat.le_succ_of_le lo
  have l2 : 2 ≤ ce := by rw [hce]; exact Nat.le_succ_of_le (Nat.le_succ_of_le lo)
  have hbC : ∀ x : Str, bindC k [(("script" : Str), Value.ref wl)] (fun x => none) x = none := fun x => by
    show (if k "script" = some .local then (fun _ => none) else _ : Str → Option Value) x = none
    rw [if_pos hk]
  have hbL : ∀ x : Str, bindL k [(("script" : Str), Value.ref wl)] (fun x => none) x = ([(("script" : Str), Value.ref wl)].lookup x) := fun x => by
    show (if k "script" = some .local then (fun y => if y = ("script" : Str) then some (Value.ref wl) else none) else _ : Str → Option Value) x = _
    rw [if_pos hk]
    by_cases e : x = ("script" : Str)
    · subst e; rw [if_pos rfl]; simp [List.lookup]
    · rw [if_neg e]; simp [List.lookup, beq_eq_false_iff_ne.mpr e]
  rw [hbC] at he hf
  have hnone : s₁.heap.get? L = none := by rw [hLe]; exact Heap.get?_none_of_le (Nat.le_refl _)
  have S0 : St ⟨⟨prog, w, s₁.heap, KK w.params, s₁.os⟩, fd, L, fa, A, 100, some ([], [], s₁.heap), [(("entries" : Str), ce), (("figures" : Str), cf)], some fa, some L⟩ [some (.ref wl)] [(cf, .cell none), (ce, .cell none)] { heap := h₁, gens := #[], drawn := d, toks := tk, os := s₁.os } := by
    refine ⟨⟨I.g, hA, hK, hGl, hB, lo, fun p hp => by cases hp; exact ⟨hA0, hnone, rfl⟩⟩, ⟨fun p hp => ?_, ?_, F.keep, fun p hp => ?_, fun p hp => ?_⟩, ⟨_, F.ns, fun x => ?_⟩, ?_, hnone, rfl, rfl, fun p hp => ?_⟩
    · rcases List.mem_cons.mp hp with rfl | hp
      · exact ⟨_, _, N.get (.tail _ (.head _)), hf, rfl⟩
      · obtain rfl : p = (ce, .cell none) := by simpa using hp
        exact ⟨_, _, N.get (.head _), he, rfl⟩
    · simp [n1]
    · rcases List.mem_cons.mp hp with rfl | hp
      · exact N.fresh (.tail _ (.head _))
      · obtain rfl : p = (ce, .cell none) := by simpa using hp
        exact N.fresh (.head _)
    · rcases List.mem_cons.mp hp with rfl | hp
      · exact l1
      · obtain rfl : p = (ce, .cell none) := by simpa using hp
        exact l2
    · rw [hbL]
      show OVR h₁ (getN (fd.scope.names.map (·.1)) [some (.ref wl)] x) _
      rw [hN]
      exact zip_vals (h := h₁) (x := x) (ps := [("script" : Str)]) (rest := (lawN2.map (fun p : Str × NameKind => p.1)).drop 1) (l := [.ref wl]) (vs := [.ref wl]) (.one .refI) rfl (List.nodup_cons.mp lawN2_nd).2
    · simp [n2, n3]
    · cases hp
      refine ⟨(fun e he => by cases he), fun b o _ _ e => F.keep b o e, fun b hb => .inr ?_⟩
      have : b = cf ∨ b = ce := by simpa using hb
      rcases this with rfl | rfl
      · exact N.fresh (.tail _ (.head _))
      · exact N.fresh (.head _)
  refine to_goal (X := ⟨⟨prog, w, s₁.heap, KK w.params, s₁.os⟩, fd, L, fa, A, 100, some ([], [], s₁.heap), [(("entries" : Str), ce), (("figures" : Str), cf)], some fa, some L⟩) (law_xs2 I (wl := wl) (cf := cf) (ce := ce) (ns := ns) (fun σ => .base hL (IntsAre.vrs hI)) hz rfl (fun _ _ _ _ _ _ _ _ _ _ _ _ _ _ => ⟨rfl, hN, hK, rfl, rfl⟩)) (S0.pad 24) hR
end Mine
open PySem PySem.W PyProof.Rows
open PySem PySem.W PyProof.Rows
set_option maxHeartbeats 8000000 in
theorem PySem.Challenge.cw_rh0093_02_holds : PySem.Challenge.rw_rh0093_02.Holds := by
  w_on
  refine holds_law Mine.said0 fun said => ?_
  refine holds_open (q := view Mine.pw Mine.kp) (loose := Mine.lsN) (Xt := Mine.xtN) (XP := XL (view Mine.pw Mine.kp) Mine.lvN) (Yf := Mine.obsF) (Ya := Mine.valF) (YP := InK Mine.KK) (d := Mine.lawD) (kwd := []) (N := 3600) Mine.left (InK.of Mine.asF_eq) InK.keeps (fun s e => xl_of s (Bool.and_eq_true_iff.mp e).1) XL.keeps Mine.hdef0 Mine.hp0 Mine.hk0 (fun s e => recFacts_of (Bool.and_eq_true_iff.mp e).2) rfl said Mine.ok0 Mine.bare0 ?hw ?hc
  case hw => w_witness2
  intro w s₀ s₁ mg mb G Y fa o pm cd doc dV kV ho hd hcd hD hmg hg args vals as hpre hlay hrd hwl hlo
  have KX : (Mine.KK w.params).In s₁.heap := Y
  have X := (Ground.X G).1
  have V := (Ground.X G).2
  refine Ground.open G ?_
  intro T B D TE TW
  try (refine guard_noD D (by decide +kernel) ?_; clear D)
  obtain ⟨_, _, M⟩ := bmod_of_top T
  have TA := at_of_top T
  try (obtain ⟨_, _, he, B0⟩ := based_of_top T rfl hmg ho hd; have he' : cd = _ := he; subst he'; clear he)
  clear hmg
  wrow_args hpre hlay hrd hwl hlo
  refine enter_call ?_
  w_top on
  try refine codeAny_mono ?_ (fun _ _ g => GoodW.toG g)
  have K0 := below_caller (Top.heap T)
  w_call any ho hd hcd hD T F
  clear hd TA
  k_drop
  have T := ‹Top _ _ _ _ _ _›
  have hI := ‹IntsAre _ _›
  have hL := ‹Heap.IsList _ _ _›
  have F := ‹Fr _ _ _ _›
  have N := ‹News _ _ _ _›
  refine' Mine.fin_law2 (fd := ⟨Mine.lawD.name, Mine.lawD.name, Mine.lawD.params, .stmts Mine.lawD.body, Mine.lawD.scope, mainGlobals, [], .none, .none, .none, .none, none, _, .none, builtinsNs⟩) ?henv ?hN rfl rfl rfl ?hfr KX ⟨_, _, _, _, topRead_of T⟩ hI hL ?hz ?hA ?hl ?hk F N (by assumption) (by assumption) rfl rfl rfl (by assumption) rfl ?hR
  case henv => rfl
  case hN => rfl
  case hfr => rfl
  case hl => rfl
  case hk => rfl
  case hz => omega
  case hA => exact ⟨(by decide : callerA.depth + 1 + 100 < recursionLimit), (by decide : callerA.units + 3 + 5 * 100 + 20 < cLine), .inr rfl⟩
  case hR =>
    intro s' hk hg ho
    refine ⟨.inl ⟨_, _, _, rfl, raisesW_false ?r1, .bool true, ?r2, unshared_nil⟩, hk, ho, hg⟩
    case r1 => wrow_none_raised
    case r2 => wrow_post
