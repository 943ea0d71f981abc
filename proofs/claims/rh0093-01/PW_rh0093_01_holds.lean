import PyProof.Rows.All
import Wide.All
import OpenK.AllK
import Wide.FinOn
import PySem.Challenge.RW_rh0093_01
set_option Elab.async false
set_option bootstrap.genMatcherCode false
set_option maxRecDepth 100000
set_option linter.unusedVariables false
set_option linter.unusedSectionVars false
set_option linter.unusedSimpArgs false
set_option maxHeartbeats 8000000
namespace Mine
open PySem PySem.W PyProof.Rows PySem.Calls
/-- strings, for the kernel -/
theorem ofS (s : String) : Str.ofString s = ⟨(s.toList.map Char.toNat).toArray⟩ := by
  rw [Str.ofString_eq_byList]; rfl
noncomputable def strQ (s : String) : Str := ⟨⟨R.mapR Char.toNat (S.toListS s)⟩⟩
theorem strQ_eq : Str.ofString = strQ := by
  funext s
  rw [ofS]
  unfold strQ
  rw [← R.mapR_eq, ← S.toListS_eq]

/-- the run to its end, by the tree -/
noncomputable def runW (thr ok : Thread → Bool) (st : SharedT → Thread → Option (SharedT × Thread)) : Nat → SharedT → Thread → Option SharedT
  | 0, _, _ => none
  | n + 1, s, t => match thr t with
    | true => some s
    | false => match ok t with
      | false => none
      | true => match st s t with
        | some (s', t') => runW thr ok st n s' t'
        | none => none
theorem run_of {tb : String → Option Builtin} {p : Program} {w : World} {n₀ : Nat} {ann : Option Value} : ∀ {n : Nat} {s s' : SharedT} {t : Thread},
    runW through (stepOk n₀ ann) (stepT (denote tb) p w) n s t = some s' → topRun tb p w n₀ ann n s.abs t = some s'.abs
  | 0, _, _, _, h => by cases h
  | n + 1, s, s', t, h => by
    unfold runW at h
    unfold topRun
    cases he : through t with
    | true => rw [he] at h; cases h; rfl
    | false =>
      rw [he] at h
      cases hk : stepOk n₀ ann t with
      | false => rw [hk] at h; cases h
      | true =>
        rw [hk] at h
        cases hs : stepT (denote tb) p w s t with
        | none => rw [hs] at h; cases h
        | some r => obtain ⟨s₂, t₂⟩ := r; rw [hs] at h; rw [stepT_spec hs]; exact run_of h

noncomputable def btOf : List Obj → Nat → BT → BT
  | [], _, t => t
  | o :: l, n, t => btOf l (n + 1) (t.ins n o)
noncomputable def bootT (P : Params) : BT := btOf (boot_heap P).objs.toList 0 .nil
noncomputable abbrev pw := PySem.Challenge.pw_rh0093_01
noncomputable def pwQ_ex : { q : Program // pw = q } := by
  apply Subtype.mk
  unfold pw PySem.Challenge.pw_rh0093_01
  rw [strQ_eq]
noncomputable def pq : Program := pwQ_ex.1
theorem pq_eq : pw = pq := pwQ_ex.2
theorem abs0 (P : Params) : absHeap (bootT P) 11 (boot_heap P).life = boot_heap P := by kernel_rfl
noncomputable abbrev ann6 : Option Value := some (.ref 6)
noncomputable abbrev kp : List Nat := [0, 2, 3, 4, 5, 6, 7, 8, 9, 10, 11, 12, 14, 15, 16, 17, 18, 21, 22, 23, 24, 25, 26, 27, 28, 30, 31, 32, 33, 34, 35, 36, 37, 38, 39, 40, 41, 43, 44, 45, 46, 47]
noncomputable abbrev lsN : List Str := [Str.ofString "NIL", Str.ofString "list_term"]
noncomputable abbrev lvN : List (Str × WData) := [(Str.ofString "NIL", WData.tuple [WData.str ⟨#[97]⟩, WData.int 0])]
noncomputable abbrev xtN (s : Shared) : Bool := xlAt (view pw kp) lvN s && recOk [] s
noncomputable abbrev s0T (w : World) (os : OsState) : SharedT := ⟨bootT w.params, 11, (boot_heap w.params).life, Array.mk [], boot_drawn, boot_toks, os⟩
noncomputable abbrev runF (w : World) (os : OsState) : Option SharedT := runW through (stepOk 11 ann6) (stepT (denote treeTable) pw w) 3600 (s0T w os) (topStub pw)

noncomputable def nthS : List Stmt → Nat → Stmt
  | [], _ => .Pass ⟨0, 0, 0, 0⟩
  | s :: _, 0 => s
  | _ :: l, n + 1 => nthS l n
noncomputable def clsB : Stmt → List Stmt
  | .ClassDef _ _ _ b _ _ _ _ _ _ _ => b
  | _ => []
noncomputable def fnB : Stmt → List Stmt
  | .FunctionDef _ _ b _ _ _ _ _ _ _ => b
  | _ => []
noncomputable def fnP : Stmt → Arguments
  | .FunctionDef _ a _ _ _ _ _ _ _ _ => a
  | _ => ⟨[], [], none, [], [], none, []⟩
noncomputable def fnS : Stmt → Scope
  | .FunctionDef _ _ _ _ _ _ c _ _ _ => c
  | _ => ⟨.module, [], false, false, []⟩
noncomputable def KF0 (σ : String → Str) (p : Program) (P : Params) : Frag := [
  (2, (Obj.mk Value.none Option.none (Data.dict (List.toArray [(DictEntry.mk (PyData.keyHash P (σ "type.__subclasses__.Exception.0")) (Value.str (σ "type.__subclasses__.Exception.0") 212) (Value.int (31 : Int) 0)), (DictEntry.mk (PyData.keyHash P (σ "type.__subclasses__.Exception.n")) (Value.str (σ "type.__subclasses__.Exception.n") 213) (Value.int (1 : Int) 0))]) 2) #[])),
  (3, (Obj.mk (Value.type "dict") Option.none (Data.dict (List.toArray [(DictEntry.mk (PyData.keyHash P (σ "__name__")) (Value.str (σ "__name__") 165) (Value.str (σ "law_rh0093_01") 902)), (DictEntry.mk (PyData.keyHash P (σ "__doc__")) (Value.str (σ "__doc__") 166) Value.none), (DictEntry.mk (PyData.keyHash P (σ "__package__")) (Value.str (σ "__package__") 167) Value.none), (DictEntry.mk (PyData.keyHash P (σ "__loader__")) (Value.str (σ "__loader__") 168) (Value.builtin "__main__.__loader__#opaque")), (DictEntry.mk (PyData.keyHash P (σ "__spec__")) (Value.str (σ "__spec__") 169) Value.none), (DictEntry.mk (PyData.keyHash P (σ "__annotations__")) (Value.str (σ "__annotations__") 170) (Value.ref 6)), (DictEntry.mk (PyData.keyHash P (σ "__builtins__")) (Value.str (σ "__builtins__") 171) (Value.ref 4)), (DictEntry.mk (PyData.keyHash P (σ "__file__")) (Value.str (σ "__file__") 173) (Value.str (σ "/claim/cut.py") 172)), (DictEntry.mk (PyData.keyHash P (σ "__cached__")) (Value.str (σ "__cached__") 174) Value.none), (DictEntry.mk (PyData.keyHash P (σ "_wall")) (Value.str (σ "_wall") 193) (Value.ref 21)), (DictEntry.mk (PyData.keyHash P (σ "ClausemillError")) (Value.str (σ "ClausemillError") 215) (Value.ref 31)), (DictEntry.mk (PyData.keyHash P (σ "SyntaxFault")) (Value.str (σ "SyntaxFault") 246) (Value.ref 51)), (DictEntry.mk (PyData.keyHash P (σ "A_NIL")) (Value.str (σ "A_NIL") 248) (Value.int (0 : Int) 247)), (DictEntry.mk (PyData.keyHash P (σ "A_CURLY")) (Value.str (σ "A_CURLY") 250) (Value.int (2 : Int) 249)), (DictEntry.mk (PyData.keyHash P (σ "A_COMMA")) (Value.str (σ "A_COMMA") 252) (Value.int (7 : Int) 251)), (DictEntry.mk (PyData.keyHash P (σ "A_BAR")) (Value.str (σ "A_BAR") 254) (Value.int (8 : Int) 253)), (DictEntry.mk (PyData.keyHash P (σ "F_DOT")) (Value.str (σ "F_DOT") 256) (Value.int (0 : Int) 255)), (DictEntry.mk (PyData.keyHash P (σ "F_CURLY")) (Value.str (σ "F_CURLY") 258) (Value.int (9 : Int) 257)), (DictEntry.mk (PyData.keyHash P (σ "fixed_atoms")) (Value.str (σ "fixed_atoms") 264) (Value.ref 60)), (DictEntry.mk (PyData.keyHash P (σ "fixed_functors")) (Value.str (σ "fixed_functors") 270) (Value.ref 67)), (DictEntry.mk (PyData.keyHash P (σ "Symbols")) (Value.str (σ "Symbols") 389) (Value.ref 154)), (DictEntry.mk (PyData.keyHash P (σ "NIL")) (Value.str (σ "NIL") 393) (Value.ref 159)), (DictEntry.mk (PyData.keyHash P (σ "var")) (Value.str (σ "var") 400) (Value.ref 166)), (DictEntry.mk (PyData.keyHash P (σ "atom")) (Value.str (σ "atom") 407) (Value.ref 173)), (DictEntry.mk (PyData.keyHash P (σ "integer")) (Value.str (σ "integer") 414) (Value.ref 180)), (DictEntry.mk (PyData.keyHash P (σ "struct")) (Value.str (σ "struct") 422) (Value.ref 187)), (DictEntry.mk (PyData.keyHash P (σ "list_term")) (Value.str (σ "list_term") 432) (Value.ref 195)), (DictEntry.mk (PyData.keyHash P (σ "COMMA_PRIORITY")) (Value.str (σ "COMMA_PRIORITY") 436) (Value.int (1000 : Int) 435)), (DictEntry.mk (PyData.keyHash P (σ "PREFIX_TYPES")) (Value.str (σ "PREFIX_TYPES") 439) (Value.ref 196)), (DictEntry.mk (PyData.keyHash P (σ "INFIX_TYPES")) (Value.str (σ "INFIX_TYPES") 443) (Value.ref 197)), (DictEntry.mk (PyData.keyHash P (σ "POSTFIX_TYPES")) (Value.str (σ "POSTFIX_TYPES") 446) (Value.ref 198)), (DictEntry.mk (PyData.keyHash P (σ "standard_rows")) (Value.str (σ "standard_rows") 452) (Value.ref 205)), (DictEntry.mk (PyData.keyHash P (σ "fixity")) (Value.str (σ "fixity") 459) (Value.ref 212)), (DictEntry.mk (PyData.keyHash P (σ "bounds")) (Value.str (σ "bounds") 468) (Value.ref 219)), (DictEntry.mk (PyData.keyHash P (σ "OperatorTable")) (Value.str (σ "OperatorTable") 568) (Value.ref 286)), (DictEntry.mk (PyData.keyHash P (σ "CLAUSE_PRIORITY")) (Value.str (σ "CLAUSE_PRIORITY") 572) (Value.int (1200 : Int) 571)), (DictEntry.mk (PyData.keyHash P (σ "ARGUMENT_PRIORITY")) (Value.str (σ "ARGUMENT_PRIORITY") 574) (Value.int (999 : Int) 573)), (DictEntry.mk (PyData.keyHash P (σ "WANT_OPERAND")) (Value.str (σ "WANT_OPERAND") 576) (Value.int (0 : Int) 575)), (DictEntry.mk (PyData.keyHash P (σ "WANT_OPERATOR")) (Value.str (σ "WANT_OPERATOR") 578) (Value.int (1 : Int) 577)), (DictEntry.mk (PyData.keyHash P (σ "DONE")) (Value.str (σ "DONE") 580) (Value.int (2 : Int) 579)), (DictEntry.mk (PyData.keyHash P (σ "CLOSERS")) (Value.str (σ "CLOSERS") 584) (Value.ref 291)), (DictEntry.mk (PyData.keyHash P (σ "SEPARATORS")) (Value.str (σ "SEPARATORS") 587) (Value.ref 292)), (DictEntry.mk (PyData.keyHash P (σ "Frame")) (Value.str (σ "Frame") 623) (Value.ref 309)), (DictEntry.mk (PyData.keyHash P (σ "ends_operand")) (Value.str (σ "ends_operand") 630) (Value.ref 320)), (DictEntry.mk (PyData.keyHash P (σ "closes")) (Value.str (σ "closes") 637) (Value.ref 327)), (DictEntry.mk (PyData.keyHash P (σ "is_punct")) (Value.str (σ "is_punct") 645) (Value.ref 334)), (DictEntry.mk (PyData.keyHash P (σ "Parser")) (Value.str (σ "Parser") 901) (Value.ref 517)), (DictEntry.mk (PyData.keyHash P (σ "_law_figures")) (Value.str (σ "_law_figures") 914) (Value.ref 528)), (DictEntry.mk (PyData.keyHash P (σ "_law_sides")) (Value.str (σ "_law_sides") 924) (Value.ref 535)), (DictEntry.mk (PyData.keyHash P (σ "_law_least")) (Value.str (σ "_law_least") 941) (Value.ref 542)), (DictEntry.mk (PyData.keyHash P (σ "_law_unfold")) (Value.str (σ "_law_unfold") 958) (Value.ref 549)), (DictEntry.mk (PyData.keyHash P (σ "law")) (Value.str (σ "law") 987) (Value.ref 556))]) 52) #[])),
  (20, (Obj.mk (Value.type "code") Option.none (Data.fields (List.toArray [(Value.str (σ "_wall") 187), (Value.str (σ "_wall") 188), (Value.str (σ "/claim/cut.py") 189), (Value.int (1 : Int) 0), (Value.int (1 : Int) 0), (Value.int (0 : Int) 0), (Value.int (0 : Int) 0), (Value.int (3 : Int) 0), (Value.ref 15), (Value.bool Bool.true), (Value.int (181 : Int) 0), (Value.ref 16), Value.none, (Value.ref 17), (Value.ref 18), (Value.ref 19), (Value.int (191 : Int) 0), (Value.int (1 : Int) 0), (Value.str (σ "/claim/cut.py") 192)])) #[])),
  (21, (Obj.mk (Value.type "function") Option.none (Data.func (FuncData.mk (σ "_wall") (σ "_wall") (fnP (nthS p.main.body 0)) (FuncBody.stmts (fnB (nthS p.main.body 0))) (fnS (nthS p.main.body 0)) 3 [] Value.none Value.none Value.none (Value.str (σ "__main__") 164) Option.none (Value.ref 20) Value.none 0)) #[])),
  (30, (Obj.mk (Value.type "dict") Option.none (Data.dict (List.toArray [(DictEntry.mk (PyData.keyHash P (σ "__module__")) (Value.str (σ "__module__") 203) (Value.str (σ "clausemill.symbols") 194)), (DictEntry.mk (PyData.keyHash P (σ "__firstlineno__")) (Value.str (σ "__firstlineno__") 207) (Value.int (5 : Int) 206)), (DictEntry.mk (PyData.keyHash P (σ "__static_attributes__")) (Value.str (σ "__static_attributes__") 208) (Value.ref 29)), (DictEntry.mk (PyData.keyHash P (σ "__weakref__")) (Value.str (σ "__weakref__") 210) (Value.ref 32)), (DictEntry.mk (PyData.keyHash P (σ "__doc__")) (Value.str (σ "__doc__") 211) Value.none)]) 3) #[])),
  (31, (Obj.mk (Value.type "type") Option.none (Data.cls (ClassData.mk (σ "ClausemillError") [(Value.type "Exception")] [(Value.ref 31), (Value.type "Exception"), (Value.type "BaseException"), (Value.type "object")] 30 (σ "ClausemillError") Bool.true [] [(Value.ref 51)] Bool.false Option.none Bool.false)) (List.toArray [(Option.some (Value.ref 22)), Option.none, (Option.some (Value.str (σ "ClausemillError") 196)), (Option.some (Value.str (σ "ClausemillError") 204)), (Option.some (Value.builtin "Exception.__new__")), (Option.some (Value.bool Bool.true))]))),
  (32, (Obj.mk (Value.type "getset_descriptor") Option.none (Data.fields (List.toArray [(Value.str (σ "__weakref__") 209), (Value.ref 31), (Value.builtin "ExceptionGroup.__weakref__"), Value.none])) #[])),
  (47, (Obj.mk (Value.type "code") Option.none (Data.fields (List.toArray [(Value.str (σ "__init__") 228), (Value.str (σ "SyntaxFault.__init__") 229), (Value.str (σ "/claim/cut.py") 230), (Value.int (9 : Int) 0), (Value.int (5 : Int) 0), (Value.int (0 : Int) 0), (Value.int (0 : Int) 0), (Value.int (3 : Int) 0), (Value.ref 42), (Value.bool Bool.true), (Value.int (181 : Int) 0), (Value.ref 43), Value.none, (Value.ref 44), (Value.ref 45), (Value.ref 46), (Value.int (236 : Int) 0), (Value.int (9 : Int) 0), (Value.str (σ "/claim/cut.py") 237)])) #[])),
  (48, (Obj.mk (Value.type "function") Option.none (Data.func (FuncData.mk (σ "__init__") (σ "SyntaxFault.__init__") (fnP (nthS (clsB (nthS p.main.body 3)) 0)) (FuncBody.stmts (fnB (nthS (clsB (nthS p.main.body 3)) 0))) (fnS (nthS (clsB (nthS p.main.body 3)) 0)) 3 [] Value.none Value.none Value.none (Value.str (σ "clausemill.symbols") 194) Option.none (Value.ref 47) Value.none 0)) #[])),
  (50, (Obj.mk (Value.type "dict") Option.none (Data.dict (List.toArray [(DictEntry.mk (PyData.keyHash P (σ "__module__")) (Value.str (σ "__module__") 223) (Value.str (σ "clausemill.symbols") 194)), (DictEntry.mk (PyData.keyHash P (σ "__firstlineno__")) (Value.str (σ "__firstlineno__") 227) (Value.int (7 : Int) 226)), (DictEntry.mk (PyData.keyHash P (σ "__init__")) (Value.str (σ "__init__") 238) (Value.ref 48)), (DictEntry.mk (PyData.keyHash P (σ "__static_attributes__")) (Value.str (σ "__static_attributes__") 243) (Value.ref 49)), (DictEntry.mk (PyData.keyHash P (σ "__doc__")) (Value.str (σ "__doc__") 244) Value.none)]) 2) #[])),
  (51, (Obj.mk (Value.type "type") Option.none (Data.cls (ClassData.mk (σ "SyntaxFault") [(Value.ref 31)] [(Value.ref 51), (Value.ref 31), (Value.type "Exception"), (Value.type "BaseException"), (Value.type "object")] 50 (σ "SyntaxFault") Bool.true [] [] Bool.false Option.none Bool.false)) (List.toArray [(Option.some (Value.ref 35)), Option.none, (Option.some (Value.str (σ "SyntaxFault") 216)), (Option.some (Value.str (σ "SyntaxFault") 224)), (Option.some (Value.builtin "Exception.__new__")), (Option.some (Value.bool Bool.true))]))),
  (59, (Obj.mk (Value.type "code") Option.none (Data.fields (List.toArray [(Value.str (σ "fixed_atoms") 259), (Value.str (σ "fixed_atoms") 260), (Value.str (σ "/claim/cut.py") 261), (Value.int (20 : Int) 0), (Value.int (0 : Int) 0), (Value.int (0 : Int) 0), (Value.int (0 : Int) 0), (Value.int (3 : Int) 0), (Value.ref 54), (Value.bool Bool.true), (Value.int (181 : Int) 0), (Value.ref 55), Value.none, (Value.ref 56), (Value.ref 57), (Value.ref 58), (Value.int (262 : Int) 0), (Value.int (20 : Int) 0), (Value.str (σ "/claim/cut.py") 263)])) #[])),
  (60, (Obj.mk (Value.type "function") Option.none (Data.func (FuncData.mk (σ "fixed_atoms") (σ "fixed_atoms") (fnP (nthS p.main.body 10)) (FuncBody.stmts (fnB (nthS p.main.body 10))) (fnS (nthS p.main.body 10)) 3 [] Value.none Value.none Value.none (Value.str (σ "clausemill.symbols") 194) Option.none (Value.ref 59) Value.none 0)) #[])),
  (66, (Obj.mk (Value.type "code") Option.none (Data.fields (List.toArray [(Value.str (σ "fixed_functors") 265), (Value.str (σ "fixed_functors") 266), (Value.str (σ "/claim/cut.py") 267), (Value.int (22 : Int) 0), (Value.int (0 : Int) 0), (Value.int (0 : Int) 0), (Value.int (0 : Int) 0), (Value.int (3 : Int) 0), (Value.ref 61), (Value.bool Bool.true), (Value.int (181 : Int) 0), (Value.ref 62), Value.none, (Value.ref 63), (Value.ref 64), (Value.ref 65), (Value.int (268 : Int) 0), (Value.int (22 : Int) 0), (Value.str (σ "/claim/cut.py") 269)])) #[])),
  (67, (Obj.mk (Value.type "function") Option.none (Data.func (FuncData.mk (σ "fixed_functors") (σ "fixed_functors") (fnP (nthS p.main.body 11)) (FuncBody.stmts (fnB (nthS p.main.body 11))) (fnS (nthS p.main.body 11)) 3 [] Value.none Value.none Value.none (Value.str (σ "clausemill.symbols") 194) Option.none (Value.ref 66) Value.none 0)) #[])),
  (80, (Obj.mk (Value.type "code") Option.none (Data.fields (List.toArray [(Value.str (σ "__init__") 283), (Value.str (σ "Symbols.__init__") 284), (Value.str (σ "/claim/cut.py") 285), (Value.int (26 : Int) 0), (Value.int (1 : Int) 0), (Value.int (0 : Int) 0), (Value.int (0 : Int) 0), (Value.int (3 : Int) 0), (Value.ref 75), (Value.bool Bool.true), (Value.int (181 : Int) 0), (Value.ref 76), Value.none, (Value.ref 77), (Value.ref 78), (Value.ref 79), (Value.int (289 : Int) 0), (Value.int (26 : Int) 0), (Value.str (σ "/claim/cut.py") 290)])) #[])),
  (81, (Obj.mk (Value.type "function") Option.none (Data.func (FuncData.mk (σ "__init__") (σ "Symbols.__init__") (fnP (nthS (clsB (nthS p.main.body 12)) 0)) (FuncBody.stmts (fnB (nthS (clsB (nthS p.main.body 12)) 0))) (fnS (nthS (clsB (nthS p.main.body 12)) 0)) 3 [] Value.none Value.none Value.none (Value.str (σ "clausemill.symbols") 194) Option.none (Value.ref 80) Value.none 0)) #[])),
  (87, (Obj.mk (Value.type "code") Option.none (Data.fields (List.toArray [(Value.str (σ "atom") 292), (Value.str (σ "Symbols.atom") 293), (Value.str (σ "/claim/cut.py") 294), (Value.int (36 : Int) 0), (Value.int (2 : Int) 0), (Value.int (0 : Int) 0), (Value.int (0 : Int) 0), (Value.int (3 : Int) 0), (Value.ref 82), (Value.bool Bool.true), (Value.int (181 : Int) 0), (Value.ref 83), Value.none, (Value.ref 84), (Value.ref 85), (Value.ref 86), (Value.int (299 : Int) 0), (Value.int (36 : Int) 0), (Value.str (σ "/claim/cut.py") 300)])) #[])),
  (88, (Obj.mk (Value.type "function") Option.none (Data.func (FuncData.mk (σ "atom") (σ "Symbols.atom") (fnP (nthS (clsB (nthS p.main.body 12)) 1)) (FuncBody.stmts (fnB (nthS (clsB (nthS p.main.body 12)) 1))) (fnS (nthS (clsB (nthS p.main.body 12)) 1)) 3 [] Value.none Value.none Value.none (Value.str (σ "clausemill.symbols") 194) Option.none (Value.ref 87) Value.none 0)) #[])),
  (94, (Obj.mk (Value.type "code") Option.none (Data.fields (List.toArray [(Value.str (σ "text") 302), (Value.str (σ "Symbols.text") 303), (Value.str (σ "/claim/cut.py") 304), (Value.int (45 : Int) 0), (Value.int (2 : Int) 0), (Value.int (0 : Int) 0), (Value.int (0 : Int) 0), (Value.int (3 : Int) 0), (Value.ref 89), (Value.bool Bool.true), (Value.int (181 : Int) 0), (Value.ref 90), Value.none, (Value.ref 91), (Value.ref 92), (Value.ref 93), (Value.int (307 : Int) 0), (Value.int (45 : Int) 0), (Value.str (σ "/claim/cut.py") 308)])) #[])),
  (95, (Obj.mk (Value.type "function") Option.none (Data.func (FuncData.mk (σ "text") (σ "Symbols.text") (fnP (nthS (clsB (nthS p.main.body 12)) 2)) (FuncBody.stmts (fnB (nthS (clsB (nthS p.main.body 12)) 2))) (fnS (nthS (clsB (nthS p.main.body 12)) 2)) 3 [] Value.none Value.none Value.none (Value.str (σ "clausemill.symbols") 194) Option.none (Value.ref 94) Value.none 0)) #[])),
  (101, (Obj.mk (Value.type "code") Option.none (Data.fields (List.toArray [(Value.str (σ "functor") 310), (Value.str (σ "Symbols.functor") 311), (Value.str (σ "/claim/cut.py") 312), (Value.int (48 : Int) 0), (Value.int (3 : Int) 0), (Value.int (0 : Int) 0), (Value.int (0 : Int) 0), (Value.int (3 : Int) 0), (Value.ref 96), (Value.bool Bool.true), (Value.int (181 : Int) 0), (Value.ref 97), Value.none, (Value.ref 98), (Value.ref 99), (Value.ref 100), (Value.int (319 : Int) 0), (Value.int (48 : Int) 0), (Value.str (σ "/claim/cut.py") 320)])) #[])),
  (102, (Obj.mk (Value.type "function") Option.none (Data.func (FuncData.mk (σ "functor") (σ "Symbols.functor") (fnP (nthS (clsB (nthS p.main.body 12)) 3)) (FuncBody.stmts (fnB (nthS (clsB (nthS p.main.body 12)) 3))) (fnS (nthS (clsB (nthS p.main.body 12)) 3)) 3 [] Value.none Value.none Value.none (Value.str (σ "clausemill.symbols") 194) Option.none (Value.ref 101) Value.none 0)) #[])),
  (108, (Obj.mk (Value.type "code") Option.none (Data.fields (List.toArray [(Value.str (σ "func") 322), (Value.str (σ "Symbols.func") 323), (Value.str (σ "/claim/cut.py") 324), (Value.int (58 : Int) 0), (Value.int (3 : Int) 0), (Value.int (0 : Int) 0), (Value.int (0 : Int) 0), (Value.int (3 : Int) 0), (Value.ref 103), (Value.bool Bool.true), (Value.int (181 : Int) 0), (Value.ref 104), Value.none, (Value.ref 105), (Value.ref 106), (Value.ref 107), (Value.int (328 : Int) 0), (Value.int (58 : Int) 0), (Value.str (σ "/claim/cut.py") 329)])) #[])),
  (109, (Obj.mk (Value.type "function") Option.none (Data.func (FuncData.mk (σ "func") (σ "Symbols.func") (fnP (nthS (clsB (nthS p.main.body 12)) 4)) (FuncBody.stmts (fnB (nthS (clsB (nthS p.main.body 12)) 4))) (fnS (nthS (clsB (nthS p.main.body 12)) 4)) 3 [] Value.none Value.none Value.none (Value.str (σ "clausemill.symbols") 194) Option.none (Value.ref 108) Value.none 0)) #[])),
  (115, (Obj.mk (Value.type "code") Option.none (Data.fields (List.toArray [(Value.str (σ "name") 331), (Value.str (σ "Symbols.name") 332), (Value.str (σ "/claim/cut.py") 333), (Value.int (61 : Int) 0), (Value.int (2 : Int) 0), (Value.int (0 : Int) 0), (Value.int (0 : Int) 0), (Value.int (3 : Int) 0), (Value.ref 110), (Value.bool Bool.true), (Value.int (181 : Int) 0), (Value.ref 111), Value.none, (Value.ref 112), (Value.ref 113), (Value.ref 114), (Value.int (336 : Int) 0), (Value.int (61 : Int) 0), (Value.str (σ "/claim/cut.py") 337)])) #[])),
  (116, (Obj.mk (Value.type "function") Option.none (Data.func (FuncData.mk (σ "name") (σ "Symbols.name") (fnP (nthS (clsB (nthS p.main.body 12)) 5)) (FuncBody.stmts (fnB (nthS (clsB (nthS p.main.body 12)) 5))) (fnS (nthS (clsB (nthS p.main.body 12)) 5)) 3 [] Value.none Value.none Value.none (Value.str (σ "clausemill.symbols") 194) Option.none (Value.ref 115) Value.none 0)) #[])),
  (122, (Obj.mk (Value.type "code") Option.none (Data.fields (List.toArray [(Value.str (σ "arity") 339), (Value.str (σ "Symbols.arity") 340), (Value.str (σ "/claim/cut.py") 341), (Value.int (64 : Int) 0), (Value.int (2 : Int) 0), (Value.int (0 : Int) 0), (Value.int (0 : Int) 0), (Value.int (3 : Int) 0), (Value.ref 117), (Value.bool Bool.true), (Value.int (181 : Int) 0), (Value.ref 118), Value.none, (Value.ref 119), (Value.ref 120), (Value.ref 121), (Value.int (344 : Int) 0), (Value.int (64 : Int) 0), (Value.str (σ "/claim/cut.py") 345)])) #[])),
  (123, (Obj.mk (Value.type "function") Option.none (Data.func (FuncData.mk (σ "arity") (σ "Symbols.arity") (fnP (nthS (clsB (nthS p.main.body 12)) 6)) (FuncBody.stmts (fnB (nthS (clsB (nthS p.main.body 12)) 6))) (fnS (nthS (clsB (nthS p.main.body 12)) 6)) 3 [] Value.none Value.none Value.none (Value.str (σ "clausemill.symbols") 194) Option.none (Value.ref 122) Value.none 0)) #[])),
  (129, (Obj.mk (Value.type "code") Option.none (Data.fields (List.toArray [(Value.str (σ "label") 347), (Value.str (σ "Symbols.label") 348), (Value.str (σ "/claim/cut.py") 349), (Value.int (67 : Int) 0), (Value.int (2 : Int) 0), (Value.int (0 : Int) 0), (Value.int (0 : Int) 0), (Value.int (3 : Int) 0), (Value.ref 124), (Value.bool Bool.true), (Value.int (181 : Int) 0), (Value.ref 125), Value.none, (Value.ref 126), (Value.ref 127), (Value.ref 128), (Value.int (352 : Int) 0), (Value.int (67 : Int) 0), (Value.str (σ "/claim/cut.py") 353)])) #[])),
  (130, (Obj.mk (Value.type "function") Option.none (Data.func (FuncData.mk (σ "label") (σ "Symbols.label") (fnP (nthS (clsB (nthS p.main.body 12)) 7)) (FuncBody.stmts (fnB (nthS (clsB (nthS p.main.body 12)) 7))) (fnS (nthS (clsB (nthS p.main.body 12)) 7)) 3 [] Value.none Value.none Value.none (Value.str (σ "clausemill.symbols") 194) Option.none (Value.ref 129) Value.none 0)) #[])),
  (136, (Obj.mk (Value.type "code") Option.none (Data.fields (List.toArray [(Value.str (σ "count") 355), (Value.str (σ "Symbols.count") 356), (Value.str (σ "/claim/cut.py") 357), (Value.int (70 : Int) 0), (Value.int (1 : Int) 0), (Value.int (0 : Int) 0), (Value.int (0 : Int) 0), (Value.int (3 : Int) 0), (Value.ref 131), (Value.bool Bool.true), (Value.int (181 : Int) 0), (Value.ref 132), Value.none, (Value.ref 133), (Value.ref 134), (Value.ref 135), (Value.int (359 : Int) 0), (Value.int (70 : Int) 0), (Value.str (σ "/claim/cut.py") 360)])) #[])),
  (137, (Obj.mk (Value.type "function") Option.none (Data.func (FuncData.mk (σ "count") (σ "Symbols.count") (fnP (nthS (clsB (nthS p.main.body 12)) 8)) (FuncBody.stmts (fnB (nthS (clsB (nthS p.main.body 12)) 8))) (fnS (nthS (clsB (nthS p.main.body 12)) 8)) 3 [] Value.none Value.none Value.none (Value.str (σ "clausemill.symbols") 194) Option.none (Value.ref 136) Value.none 0)) #[])),
  (143, (Obj.mk (Value.type "code") Option.none (Data.fields (List.toArray [(Value.str (σ "functor_count") 362), (Value.str (σ "Symbols.functor_count") 363), (Value.str (σ "/claim/cut.py") 364), (Value.int (73 : Int) 0), (Value.int (1 : Int) 0), (Value.int (0 : Int) 0), (Value.int (0 : Int) 0), (Value.int (3 : Int) 0), (Value.ref 138), (Value.bool Bool.true), (Value.int (181 : Int) 0), (Value.ref 139), Value.none, (Value.ref 140), (Value.ref 141), (Value.ref 142), (Value.int (366 : Int) 0), (Value.int (73 : Int) 0), (Value.str (σ "/claim/cut.py") 367)])) #[])),
  (144, (Obj.mk (Value.type "function") Option.none (Data.func (FuncData.mk (σ "functor_count") (σ "Symbols.functor_count") (fnP (nthS (clsB (nthS p.main.body 12)) 9)) (FuncBody.stmts (fnB (nthS (clsB (nthS p.main.body 12)) 9))) (fnS (nthS (clsB (nthS p.main.body 12)) 9)) 3 [] Value.none Value.none Value.none (Value.str (σ "clausemill.symbols") 194) Option.none (Value.ref 143) Value.none 0)) #[])),
  (150, (Obj.mk (Value.type "code") Option.none (Data.fields (List.toArray [(Value.str (σ "known") 369), (Value.str (σ "Symbols.known") 370), (Value.str (σ "/claim/cut.py") 371), (Value.int (76 : Int) 0), (Value.int (3 : Int) 0), (Value.int (0 : Int) 0), (Value.int (0 : Int) 0), (Value.int (3 : Int) 0), (Value.ref 145), (Value.bool Bool.true), (Value.int (181 : Int) 0), (Value.ref 146), Value.none, (Value.ref 147), (Value.ref 148), (Value.ref 149), (Value.int (375 : Int) 0), (Value.int (76 : Int) 0), (Value.str (σ "/claim/cut.py") 376)])) #[])),
  (151, (Obj.mk (Value.type "function") Option.none (Data.func (FuncData.mk (σ "known") (σ "Symbols.known") (fnP (nthS (clsB (nthS p.main.body 12)) 10)) (FuncBody.stmts (fnB (nthS (clsB (nthS p.main.body 12)) 10))) (fnS (nthS (clsB (nthS p.main.body 12)) 10)) 3 [] Value.none Value.none Value.none (Value.str (σ "clausemill.symbols") 194) Option.none (Value.ref 150) Value.none 0)) #[])),
  (153, (Obj.mk (Value.type "dict") Option.none (Data.dict (List.toArray [(DictEntry.mk (PyData.keyHash P (σ "__module__")) (Value.str (σ "__module__") 278) (Value.str (σ "clausemill.symbols") 194)), (DictEntry.mk (PyData.keyHash P (σ "__firstlineno__")) (Value.str (σ "__firstlineno__") 282) (Value.int (24 : Int) 281)), (DictEntry.mk (PyData.keyHash P (σ "__init__")) (Value.str (σ "__init__") 291) (Value.ref 81)), (DictEntry.mk (PyData.keyHash P (σ "atom")) (Value.str (σ "atom") 301) (Value.ref 88)), (DictEntry.mk (PyData.keyHash P (σ "text")) (Value.str (σ "text") 309) (Value.ref 95)), (DictEntry.mk (PyData.keyHash P (σ "functor")) (Value.str (σ "functor") 321) (Value.ref 102)), (DictEntry.mk (PyData.keyHash P (σ "func")) (Value.str (σ "func") 330) (Value.ref 109)), (DictEntry.mk (PyData.keyHash P (σ "name")) (Value.str (σ "name") 338) (Value.ref 116)), (DictEntry.mk (PyData.keyHash P (σ "arity")) (Value.str (σ "arity") 346) (Value.ref 123)), (DictEntry.mk (PyData.keyHash P (σ "label")) (Value.str (σ "label") 354) (Value.ref 130)), (DictEntry.mk (PyData.keyHash P (σ "count")) (Value.str (σ "count") 361) (Value.ref 137)), (DictEntry.mk (PyData.keyHash P (σ "functor_count")) (Value.str (σ "functor_count") 368) (Value.ref 144)), (DictEntry.mk (PyData.keyHash P (σ "known")) (Value.str (σ "known") 377) (Value.ref 151)), (DictEntry.mk (PyData.keyHash P (σ "__static_attributes__")) (Value.str (σ "__static_attributes__") 382) (Value.ref 152)), (DictEntry.mk (PyData.keyHash P (σ "__dict__")) (Value.str (σ "__dict__") 384) (Value.ref 155)), (DictEntry.mk (PyData.keyHash P (σ "__weakref__")) (Value.str (σ "__weakref__") 386) (Value.ref 156)), (DictEntry.mk (PyData.keyHash P (σ "__doc__")) (Value.str (σ "__doc__") 387) Value.none)]) 4) #[])),
  (154, (Obj.mk (Value.type "type") Option.none (Data.cls (ClassData.mk (σ "Symbols") [(Value.type "object")] [(Value.ref 154), (Value.type "object")] 153 (σ "Symbols") Bool.true [] [] Bool.false Option.none Bool.false)) (List.toArray [Option.none, Option.none, (Option.some (Value.str (σ "Symbols") 271)), (Option.some (Value.str (σ "Symbols") 279)), (Option.some (Value.builtin "object.__new__")), (Option.some (Value.bool Bool.true))]))),
  (155, (Obj.mk (Value.type "getset_descriptor") Option.none (Data.fields (List.toArray [(Value.str (σ "__dict__") 383), (Value.ref 154), (Value.builtin "function.__dict__"), (Value.builtin "function.__dict__#set")])) #[]))]
noncomputable def KF1 (σ : String → Str) (p : Program) (P : Params) : Frag := [
  (156, (Obj.mk (Value.type "getset_descriptor") Option.none (Data.fields (List.toArray [(Value.str (σ "__weakref__") 385), (Value.ref 154), (Value.builtin "ExceptionGroup.__weakref__"), Value.none])) #[])),
  (165, (Obj.mk (Value.type "code") Option.none (Data.fields (List.toArray [(Value.str (σ "var") 394), (Value.str (σ "var") 395), (Value.str (σ "/claim/cut.py") 396), (Value.int (80 : Int) 0), (Value.int (1 : Int) 0), (Value.int (0 : Int) 0), (Value.int (0 : Int) 0), (Value.int (3 : Int) 0), (Value.ref 160), (Value.bool Bool.true), (Value.int (181 : Int) 0), (Value.ref 161), Value.none, (Value.ref 162), (Value.ref 163), (Value.ref 164), (Value.int (398 : Int) 0), (Value.int (80 : Int) 0), (Value.str (σ "/claim/cut.py") 399)])) #[])),
  (166, (Obj.mk (Value.type "function") Option.none (Data.func (FuncData.mk (σ "var") (σ "var") (fnP (nthS p.main.body 15)) (FuncBody.stmts (fnB (nthS p.main.body 15))) (fnS (nthS p.main.body 15)) 3 [] Value.none Value.none Value.none (Value.str (σ "clausemill.terms") 390) Option.none (Value.ref 165) Value.none 0)) #[])),
  (172, (Obj.mk (Value.type "code") Option.none (Data.fields (List.toArray [(Value.str (σ "atom") 401), (Value.str (σ "atom") 402), (Value.str (σ "/claim/cut.py") 403), (Value.int (82 : Int) 0), (Value.int (1 : Int) 0), (Value.int (0 : Int) 0), (Value.int (0 : Int) 0), (Value.int (3 : Int) 0), (Value.ref 167), (Value.bool Bool.true), (Value.int (181 : Int) 0), (Value.ref 168), Value.none, (Value.ref 169), (Value.ref 170), (Value.ref 171), (Value.int (405 : Int) 0), (Value.int (82 : Int) 0), (Value.str (σ "/claim/cut.py") 406)])) #[])),
  (173, (Obj.mk (Value.type "function") Option.none (Data.func (FuncData.mk (σ "atom") (σ "atom") (fnP (nthS p.main.body 16)) (FuncBody.stmts (fnB (nthS p.main.body 16))) (fnS (nthS p.main.body 16)) 3 [] Value.none Value.none Value.none (Value.str (σ "clausemill.terms") 390) Option.none (Value.ref 172) Value.none 0)) #[])),
  (179, (Obj.mk (Value.type "code") Option.none (Data.fields (List.toArray [(Value.str (σ "integer") 408), (Value.str (σ "integer") 409), (Value.str (σ "/claim/cut.py") 410), (Value.int (84 : Int) 0), (Value.int (1 : Int) 0), (Value.int (0 : Int) 0), (Value.int (0 : Int) 0), (Value.int (3 : Int) 0), (Value.ref 174), (Value.bool Bool.true), (Value.int (181 : Int) 0), (Value.ref 175), Value.none, (Value.ref 176), (Value.ref 177), (Value.ref 178), (Value.int (412 : Int) 0), (Value.int (84 : Int) 0), (Value.str (σ "/claim/cut.py") 413)])) #[])),
  (180, (Obj.mk (Value.type "function") Option.none (Data.func (FuncData.mk (σ "integer") (σ "integer") (fnP (nthS p.main.body 17)) (FuncBody.stmts (fnB (nthS p.main.body 17))) (fnS (nthS p.main.body 17)) 3 [] Value.none Value.none Value.none (Value.str (σ "clausemill.terms") 390) Option.none (Value.ref 179) Value.none 0)) #[])),
  (186, (Obj.mk (Value.type "code") Option.none (Data.fields (List.toArray [(Value.str (σ "struct") 415), (Value.str (σ "struct") 416), (Value.str (σ "/claim/cut.py") 417), (Value.int (86 : Int) 0), (Value.int (2 : Int) 0), (Value.int (0 : Int) 0), (Value.int (0 : Int) 0), (Value.int (3 : Int) 0), (Value.ref 181), (Value.bool Bool.true), (Value.int (181 : Int) 0), (Value.ref 182), Value.none, (Value.ref 183), (Value.ref 184), (Value.ref 185), (Value.int (420 : Int) 0), (Value.int (86 : Int) 0), (Value.str (σ "/claim/cut.py") 421)])) #[])),
  (187, (Obj.mk (Value.type "function") Option.none (Data.func (FuncData.mk (σ "struct") (σ "struct") (fnP (nthS p.main.body 18)) (FuncBody.stmts (fnB (nthS p.main.body 18))) (fnS (nthS p.main.body 18)) 3 [] Value.none Value.none Value.none (Value.str (σ "clausemill.terms") 390) Option.none (Value.ref 186) Value.none 0)) #[])),
  (188, (Obj.mk (Value.type "tuple") Option.none (Data.seq (List.toArray [Value.none]) 0) #[])),
  (194, (Obj.mk (Value.type "code") Option.none (Data.fields (List.toArray [(Value.str (σ "list_term") 423), (Value.str (σ "list_term") 424), (Value.str (σ "/claim/cut.py") 425), (Value.int (88 : Int) 0), (Value.int (2 : Int) 0), (Value.int (0 : Int) 0), (Value.int (0 : Int) 0), (Value.int (3 : Int) 0), (Value.ref 189), (Value.bool Bool.true), (Value.int (181 : Int) 0), (Value.ref 190), Value.none, (Value.ref 191), (Value.ref 192), (Value.ref 193), (Value.int (430 : Int) 0), (Value.int (88 : Int) 0), (Value.str (σ "/claim/cut.py") 431)])) #[])),
  (195, (Obj.mk (Value.type "function") Option.none (Data.func (FuncData.mk (σ "list_term") (σ "list_term") (fnP (nthS p.main.body 19)) (FuncBody.stmts (fnB (nthS p.main.body 19))) (fnS (nthS p.main.body 19)) 3 [] (Value.ref 188) Value.none Value.none (Value.str (σ "clausemill.terms") 390) Option.none (Value.ref 194) Value.none 0)) #[])),
  (196, (Obj.mk (Value.type "tuple") Option.none (Data.seq (List.toArray [(Value.str (σ "fx") 437), (Value.str (σ "fy") 438)]) 0) #[])),
  (197, (Obj.mk (Value.type "tuple") Option.none (Data.seq (List.toArray [(Value.str (σ "xfx") 440), (Value.str (σ "xfy") 441), (Value.str (σ "yfx") 442)]) 0) #[])),
  (198, (Obj.mk (Value.type "tuple") Option.none (Data.seq (List.toArray [(Value.str (σ "xf") 444), (Value.str (σ "yf") 445)]) 0) #[])),
  (204, (Obj.mk (Value.type "code") Option.none (Data.fields (List.toArray [(Value.str (σ "standard_rows") 447), (Value.str (σ "standard_rows") 448), (Value.str (σ "/claim/cut.py") 449), (Value.int (98 : Int) 0), (Value.int (0 : Int) 0), (Value.int (0 : Int) 0), (Value.int (0 : Int) 0), (Value.int (3 : Int) 0), (Value.ref 199), (Value.bool Bool.true), (Value.int (181 : Int) 0), (Value.ref 200), Value.none, (Value.ref 201), (Value.ref 202), (Value.ref 203), (Value.int (450 : Int) 0), (Value.int (98 : Int) 0), (Value.str (σ "/claim/cut.py") 451)])) #[])),
  (205, (Obj.mk (Value.type "function") Option.none (Data.func (FuncData.mk (σ "standard_rows") (σ "standard_rows") (fnP (nthS p.main.body 25)) (FuncBody.stmts (fnB (nthS p.main.body 25))) (fnS (nthS p.main.body 25)) 3 [] Value.none Value.none Value.none (Value.str (σ "clausemill.operators") 433) Option.none (Value.ref 204) Value.none 0)) #[])),
  (211, (Obj.mk (Value.type "code") Option.none (Data.fields (List.toArray [(Value.str (σ "fixity") 453), (Value.str (σ "fixity") 454), (Value.str (σ "/claim/cut.py") 455), (Value.int (100 : Int) 0), (Value.int (1 : Int) 0), (Value.int (0 : Int) 0), (Value.int (0 : Int) 0), (Value.int (3 : Int) 0), (Value.ref 206), (Value.bool Bool.true), (Value.int (181 : Int) 0), (Value.ref 207), Value.none, (Value.ref 208), (Value.ref 209), (Value.ref 210), (Value.int (457 : Int) 0), (Value.int (100 : Int) 0), (Value.str (σ "/claim/cut.py") 458)])) #[])),
  (212, (Obj.mk (Value.type "function") Option.none (Data.func (FuncData.mk (σ "fixity") (σ "fixity") (fnP (nthS p.main.body 26)) (FuncBody.stmts (fnB (nthS p.main.body 26))) (fnS (nthS p.main.body 26)) 3 [] Value.none Value.none Value.none (Value.str (σ "clausemill.operators") 433) Option.none (Value.ref 211) Value.none 0)) #[])),
  (218, (Obj.mk (Value.type "code") Option.none (Data.fields (List.toArray [(Value.str (σ "bounds") 460), (Value.str (σ "bounds") 461), (Value.str (σ "/claim/cut.py") 462), (Value.int (108 : Int) 0), (Value.int (2 : Int) 0), (Value.int (0 : Int) 0), (Value.int (0 : Int) 0), (Value.int (3 : Int) 0), (Value.ref 213), (Value.bool Bool.true), (Value.int (181 : Int) 0), (Value.ref 214), Value.none, (Value.ref 215), (Value.ref 216), (Value.ref 217), (Value.int (466 : Int) 0), (Value.int (108 : Int) 0), (Value.str (σ "/claim/cut.py") 467)])) #[])),
  (219, (Obj.mk (Value.type "function") Option.none (Data.func (FuncData.mk (σ "bounds") (σ "bounds") (fnP (nthS p.main.body 27)) (FuncBody.stmts (fnB (nthS p.main.body 27))) (fnS (nthS p.main.body 27)) 3 [] Value.none Value.none Value.none (Value.str (σ "clausemill.operators") 433) Option.none (Value.ref 218) Value.none 0)) #[])),
  (227, (Obj.mk (Value.type "tuple") Option.none (Data.seq (List.toArray [(Value.bool Bool.true)]) 0) #[])),
  (233, (Obj.mk (Value.type "code") Option.none (Data.fields (List.toArray [(Value.str (σ "__init__") 481), (Value.str (σ "OperatorTable.__init__") 482), (Value.str (σ "/claim/cut.py") 483), (Value.int (125 : Int) 0), (Value.int (3 : Int) 0), (Value.int (0 : Int) 0), (Value.int (0 : Int) 0), (Value.int (3 : Int) 0), (Value.ref 228), (Value.bool Bool.true), (Value.int (181 : Int) 0), (Value.ref 229), Value.none, (Value.ref 230), (Value.ref 231), (Value.ref 232), (Value.int (491 : Int) 0), (Value.int (125 : Int) 0), (Value.str (σ "/claim/cut.py") 492)])) #[])),
  (234, (Obj.mk (Value.type "function") Option.none (Data.func (FuncData.mk (σ "__init__") (σ "OperatorTable.__init__") (fnP (nthS (clsB (nthS p.main.body 28)) 0)) (FuncBody.stmts (fnB (nthS (clsB (nthS p.main.body 28)) 0))) (fnS (nthS (clsB (nthS p.main.body 28)) 0)) 3 [] (Value.ref 227) Value.none Value.none (Value.str (σ "clausemill.operators") 433) Option.none (Value.ref 233) Value.none 0)) #[])),
  (240, (Obj.mk (Value.type "code") Option.none (Data.fields (List.toArray [(Value.str (σ "prefix") 494), (Value.str (σ "OperatorTable.prefix") 495), (Value.str (σ "/claim/cut.py") 496), (Value.int (136 : Int) 0), (Value.int (2 : Int) 0), (Value.int (0 : Int) 0), (Value.int (0 : Int) 0), (Value.int (3 : Int) 0), (Value.ref 235), (Value.bool Bool.true), (Value.int (181 : Int) 0), (Value.ref 236), Value.none, (Value.ref 237), (Value.ref 238), (Value.ref 239), (Value.int (499 : Int) 0), (Value.int (136 : Int) 0), (Value.str (σ "/claim/cut.py") 500)])) #[])),
  (241, (Obj.mk (Value.type "function") Option.none (Data.func (FuncData.mk (σ "prefix") (σ "OperatorTable.prefix") (fnP (nthS (clsB (nthS p.main.body 28)) 1)) (FuncBody.stmts (fnB (nthS (clsB (nthS p.main.body 28)) 1))) (fnS (nthS (clsB (nthS p.main.body 28)) 1)) 3 [] Value.none Value.none Value.none (Value.str (σ "clausemill.operators") 433) Option.none (Value.ref 240) Value.none 0)) #[])),
  (247, (Obj.mk (Value.type "code") Option.none (Data.fields (List.toArray [(Value.str (σ "infix") 502), (Value.str (σ "OperatorTable.infix") 503), (Value.str (σ "/claim/cut.py") 504), (Value.int (139 : Int) 0), (Value.int (2 : Int) 0), (Value.int (0 : Int) 0), (Value.int (0 : Int) 0), (Value.int (3 : Int) 0), (Value.ref 242), (Value.bool Bool.true), (Value.int (181 : Int) 0), (Value.ref 243), Value.none, (Value.ref 244), (Value.ref 245), (Value.ref 246), (Value.int (507 : Int) 0), (Value.int (139 : Int) 0), (Value.str (σ "/claim/cut.py") 508)])) #[])),
  (248, (Obj.mk (Value.type "function") Option.none (Data.func (FuncData.mk (σ "infix") (σ "OperatorTable.infix") (fnP (nthS (clsB (nthS p.main.body 28)) 2)) (FuncBody.stmts (fnB (nthS (clsB (nthS p.main.body 28)) 2))) (fnS (nthS (clsB (nthS p.main.body 28)) 2)) 3 [] Value.none Value.none Value.none (Value.str (σ "clausemill.operators") 433) Option.none (Value.ref 247) Value.none 0)) #[])),
  (254, (Obj.mk (Value.type "code") Option.none (Data.fields (List.toArray [(Value.str (σ "postfix") 510), (Value.str (σ "OperatorTable.postfix") 511), (Value.str (σ "/claim/cut.py") 512), (Value.int (142 : Int) 0), (Value.int (2 : Int) 0), (Value.int (0 : Int) 0), (Value.int (0 : Int) 0), (Value.int (3 : Int) 0), (Value.ref 249), (Value.bool Bool.true), (Value.int (181 : Int) 0), (Value.ref 250), Value.none, (Value.ref 251), (Value.ref 252), (Value.ref 253), (Value.int (515 : Int) 0), (Value.int (142 : Int) 0), (Value.str (σ "/claim/cut.py") 516)])) #[])),
  (255, (Obj.mk (Value.type "function") Option.none (Data.func (FuncData.mk (σ "postfix") (σ "OperatorTable.postfix") (fnP (nthS (clsB (nthS p.main.body 28)) 3)) (FuncBody.stmts (fnB (nthS (clsB (nthS p.main.body 28)) 3))) (fnS (nthS (clsB (nthS p.main.body 28)) 3)) 3 [] Value.none Value.none Value.none (Value.str (σ "clausemill.operators") 433) Option.none (Value.ref 254) Value.none 0)) #[])),
  (261, (Obj.mk (Value.type "code") Option.none (Data.fields (List.toArray [(Value.str (σ "is_operator") 518), (Value.str (σ "OperatorTable.is_operator") 519), (Value.str (σ "/claim/cut.py") 520), (Value.int (145 : Int) 0), (Value.int (2 : Int) 0), (Value.int (0 : Int) 0), (Value.int (0 : Int) 0), (Value.int (3 : Int) 0), (Value.ref 256), (Value.bool Bool.true), (Value.int (181 : Int) 0), (Value.ref 257), Value.none, (Value.ref 258), (Value.ref 259), (Value.ref 260), (Value.int (523 : Int) 0), (Value.int (145 : Int) 0), (Value.str (σ "/claim/cut.py") 524)])) #[])),
  (262, (Obj.mk (Value.type "function") Option.none (Data.func (FuncData.mk (σ "is_operator") (σ "OperatorTable.is_operator") (fnP (nthS (clsB (nthS p.main.body 28)) 4)) (FuncBody.stmts (fnB (nthS (clsB (nthS p.main.body 28)) 4))) (fnS (nthS (clsB (nthS p.main.body 28)) 4)) 3 [] Value.none Value.none Value.none (Value.str (σ "clausemill.operators") 433) Option.none (Value.ref 261) Value.none 0)) #[])),
  (268, (Obj.mk (Value.type "code") Option.none (Data.fields (List.toArray [(Value.str (σ "table_of") 526), (Value.str (σ "OperatorTable.table_of") 527), (Value.str (σ "/claim/cut.py") 528), (Value.int (148 : Int) 0), (Value.int (2 : Int) 0), (Value.int (0 : Int) 0), (Value.int (0 : Int) 0), (Value.int (3 : Int) 0), (Value.ref 263), (Value.bool Bool.true), (Value.int (181 : Int) 0), (Value.ref 264), Value.none, (Value.ref 265), (Value.ref 266), (Value.ref 267), (Value.int (532 : Int) 0), (Value.int (148 : Int) 0), (Value.str (σ "/claim/cut.py") 533)])) #[])),
  (269, (Obj.mk (Value.type "function") Option.none (Data.func (FuncData.mk (σ "table_of") (σ "OperatorTable.table_of") (fnP (nthS (clsB (nthS p.main.body 28)) 5)) (FuncBody.stmts (fnB (nthS (clsB (nthS p.main.body 28)) 5))) (fnS (nthS (clsB (nthS p.main.body 28)) 5)) 3 [] Value.none Value.none Value.none (Value.str (σ "clausemill.operators") 433) Option.none (Value.ref 268) Value.none 0)) #[])),
  (275, (Obj.mk (Value.type "code") Option.none (Data.fields (List.toArray [(Value.str (σ "add") 535), (Value.str (σ "OperatorTable.add") 536), (Value.str (σ "/claim/cut.py") 537), (Value.int (156 : Int) 0), (Value.int (4 : Int) 0), (Value.int (0 : Int) 0), (Value.int (0 : Int) 0), (Value.int (3 : Int) 0), (Value.ref 270), (Value.bool Bool.true), (Value.int (181 : Int) 0), (Value.ref 271), Value.none, (Value.ref 272), (Value.ref 273), (Value.ref 274), (Value.int (543 : Int) 0), (Value.int (156 : Int) 0), (Value.str (σ "/claim/cut.py") 544)])) #[])),
  (276, (Obj.mk (Value.type "function") Option.none (Data.func (FuncData.mk (σ "add") (σ "OperatorTable.add") (fnP (nthS (clsB (nthS p.main.body 28)) 6)) (FuncBody.stmts (fnB (nthS (clsB (nthS p.main.body 28)) 6))) (fnS (nthS (clsB (nthS p.main.body 28)) 6)) 3 [] Value.none Value.none Value.none (Value.str (σ "clausemill.operators") 433) Option.none (Value.ref 275) Value.none 0)) #[])),
  (282, (Obj.mk (Value.type "code") Option.none (Data.fields (List.toArray [(Value.str (σ "rows") 546), (Value.str (σ "OperatorTable.rows") 547), (Value.str (σ "/claim/cut.py") 548), (Value.int (163 : Int) 0), (Value.int (1 : Int) 0), (Value.int (0 : Int) 0), (Value.int (0 : Int) 0), (Value.int (3 : Int) 0), (Value.ref 277), (Value.bool Bool.true), (Value.int (181 : Int) 0), (Value.ref 278), Value.none, (Value.ref 279), (Value.ref 280), (Value.ref 281), (Value.int (554 : Int) 0), (Value.int (163 : Int) 0), (Value.str (σ "/claim/cut.py") 555)])) #[])),
  (283, (Obj.mk (Value.type "function") Option.none (Data.func (FuncData.mk (σ "rows") (σ "OperatorTable.rows") (fnP (nthS (clsB (nthS p.main.body 28)) 7)) (FuncBody.stmts (fnB (nthS (clsB (nthS p.main.body 28)) 7))) (fnS (nthS (clsB (nthS p.main.body 28)) 7)) 3 [] Value.none Value.none Value.none (Value.str (σ "clausemill.operators") 433) Option.none (Value.ref 282) Value.none 0)) #[])),
  (285, (Obj.mk (Value.type "dict") Option.none (Data.dict (List.toArray [(DictEntry.mk (PyData.keyHash P (σ "__module__")) (Value.str (σ "__module__") 476) (Value.str (σ "clausemill.operators") 433)), (DictEntry.mk (PyData.keyHash P (σ "__firstlineno__")) (Value.str (σ "__firstlineno__") 480) (Value.int (123 : Int) 479)), (DictEntry.mk (PyData.keyHash P (σ "__init__")) (Value.str (σ "__init__") 493) (Value.ref 234)), (DictEntry.mk (PyData.keyHash P (σ "prefix")) (Value.str (σ "prefix") 501) (Value.ref 241)), (DictEntry.mk (PyData.keyHash P (σ "infix")) (Value.str (σ "infix") 509) (Value.ref 248)), (DictEntry.mk (PyData.keyHash P (σ "postfix")) (Value.str (σ "postfix") 517) (Value.ref 255)), (DictEntry.mk (PyData.keyHash P (σ "is_operator")) (Value.str (σ "is_operator") 525) (Value.ref 262)), (DictEntry.mk (PyData.keyHash P (σ "table_of")) (Value.str (σ "table_of") 534) (Value.ref 269)), (DictEntry.mk (PyData.keyHash P (σ "add")) (Value.str (σ "add") 545) (Value.ref 276)), (DictEntry.mk (PyData.keyHash P (σ "rows")) (Value.str (σ "rows") 556) (Value.ref 283)), (DictEntry.mk (PyData.keyHash P (σ "__static_attributes__")) (Value.str (σ "__static_attributes__") 561) (Value.ref 284)), (DictEntry.mk (PyData.keyHash P (σ "__dict__")) (Value.str (σ "__dict__") 563) (Value.ref 287)), (DictEntry.mk (PyData.keyHash P (σ "__weakref__")) (Value.str (σ "__weakref__") 565) (Value.ref 288)), (DictEntry.mk (PyData.keyHash P (σ "__doc__")) (Value.str (σ "__doc__") 566) Value.none)]) 4) #[])),
  (286, (Obj.mk (Value.type "type") Option.none (Data.cls (ClassData.mk (σ "OperatorTable") [(Value.type "object")] [(Value.ref 286), (Value.type "object")] 285 (σ "OperatorTable") Bool.true [] [] Bool.false Option.none Bool.false)) (List.toArray [Option.none, Option.none, (Option.some (Value.str (σ "OperatorTable") 469)), (Option.some (Value.str (σ "OperatorTable") 477)), (Option.some (Value.builtin "object.__new__")), (Option.some (Value.bool Bool.true))])))]
noncomputable def KF2 (σ : String → Str) (p : Program) (P : Params) : Frag := [
  (287, (Obj.mk (Value.type "getset_descriptor") Option.none (Data.fields (List.toArray [(Value.str (σ "__dict__") 562), (Value.ref 286), (Value.builtin "function.__dict__"), (Value.builtin "function.__dict__#set")])) #[])),
  (288, (Obj.mk (Value.type "getset_descriptor") Option.none (Data.fields (List.toArray [(Value.str (σ "__weakref__") 564), (Value.ref 286), (Value.builtin "ExceptionGroup.__weakref__"), Value.none])) #[])),
  (291, (Obj.mk (Value.type "tuple") Option.none (Data.seq (List.toArray [(Value.str (σ ")") 581), (Value.str (σ "]") 582), (Value.str (σ "}") 583)]) 0) #[])),
  (292, (Obj.mk (Value.type "tuple") Option.none (Data.seq (List.toArray [(Value.str (σ ",") 585), (Value.str (σ "|") 586)]) 0) #[])),
  (305, (Obj.mk (Value.type "code") Option.none (Data.fields (List.toArray [(Value.str (σ "__init__") 600), (Value.str (σ "Frame.__init__") 601), (Value.str (σ "/claim/cut.py") 602), (Value.int (179 : Int) 0), (Value.int (3 : Int) 0), (Value.int (0 : Int) 0), (Value.int (0 : Int) 0), (Value.int (3 : Int) 0), (Value.ref 300), (Value.bool Bool.true), (Value.int (181 : Int) 0), (Value.ref 301), Value.none, (Value.ref 302), (Value.ref 303), (Value.ref 304), (Value.int (606 : Int) 0), (Value.int (179 : Int) 0), (Value.str (σ "/claim/cut.py") 607)])) #[])),
  (306, (Obj.mk (Value.type "function") Option.none (Data.func (FuncData.mk (σ "__init__") (σ "Frame.__init__") (fnP (nthS (clsB (nthS p.main.body 37)) 0)) (FuncBody.stmts (fnB (nthS (clsB (nthS p.main.body 37)) 0))) (fnS (nthS (clsB (nthS p.main.body 37)) 0)) 3 [] Value.none Value.none Value.none (Value.str (σ "clausemill.parser") 569) Option.none (Value.ref 305) Value.none 0)) #[])),
  (308, (Obj.mk (Value.type "dict") Option.none (Data.dict (List.toArray [(DictEntry.mk (PyData.keyHash P (σ "__module__")) (Value.str (σ "__module__") 595) (Value.str (σ "clausemill.parser") 569)), (DictEntry.mk (PyData.keyHash P (σ "__firstlineno__")) (Value.str (σ "__firstlineno__") 599) (Value.int (177 : Int) 598)), (DictEntry.mk (PyData.keyHash P (σ "__init__")) (Value.str (σ "__init__") 608) (Value.ref 306)), (DictEntry.mk (PyData.keyHash P (σ "__static_attributes__")) (Value.str (σ "__static_attributes__") 616) (Value.ref 307)), (DictEntry.mk (PyData.keyHash P (σ "__dict__")) (Value.str (σ "__dict__") 618) (Value.ref 310)), (DictEntry.mk (PyData.keyHash P (σ "__weakref__")) (Value.str (σ "__weakref__") 620) (Value.ref 311)), (DictEntry.mk (PyData.keyHash P (σ "__doc__")) (Value.str (σ "__doc__") 621) Value.none)]) 4) #[])),
  (309, (Obj.mk (Value.type "type") Option.none (Data.cls (ClassData.mk (σ "Frame") [(Value.type "object")] [(Value.ref 309), (Value.type "object")] 308 (σ "Frame") Bool.true [] [] Bool.false Option.none Bool.false)) (List.toArray [Option.none, Option.none, (Option.some (Value.str (σ "Frame") 588)), (Option.some (Value.str (σ "Frame") 596)), (Option.some (Value.builtin "object.__new__")), (Option.some (Value.bool Bool.true))]))),
  (310, (Obj.mk (Value.type "getset_descriptor") Option.none (Data.fields (List.toArray [(Value.str (σ "__dict__") 617), (Value.ref 309), (Value.builtin "function.__dict__"), (Value.builtin "function.__dict__#set")])) #[])),
  (311, (Obj.mk (Value.type "getset_descriptor") Option.none (Data.fields (List.toArray [(Value.str (σ "__weakref__") 619), (Value.ref 309), (Value.builtin "ExceptionGroup.__weakref__"), Value.none])) #[])),
  (319, (Obj.mk (Value.type "code") Option.none (Data.fields (List.toArray [(Value.str (σ "ends_operand") 624), (Value.str (σ "ends_operand") 625), (Value.str (σ "/claim/cut.py") 626), (Value.int (187 : Int) 0), (Value.int (1 : Int) 0), (Value.int (0 : Int) 0), (Value.int (0 : Int) 0), (Value.int (3 : Int) 0), (Value.ref 314), (Value.bool Bool.true), (Value.int (181 : Int) 0), (Value.ref 315), Value.none, (Value.ref 316), (Value.ref 317), (Value.ref 318), (Value.int (628 : Int) 0), (Value.int (187 : Int) 0), (Value.str (σ "/claim/cut.py") 629)])) #[])),
  (320, (Obj.mk (Value.type "function") Option.none (Data.func (FuncData.mk (σ "ends_operand") (σ "ends_operand") (fnP (nthS p.main.body 38)) (FuncBody.stmts (fnB (nthS p.main.body 38))) (fnS (nthS p.main.body 38)) 3 [] Value.none Value.none Value.none (Value.str (σ "clausemill.parser") 569) Option.none (Value.ref 319) Value.none 0)) #[])),
  (326, (Obj.mk (Value.type "code") Option.none (Data.fields (List.toArray [(Value.str (σ "closes") 631), (Value.str (σ "closes") 632), (Value.str (σ "/claim/cut.py") 633), (Value.int (189 : Int) 0), (Value.int (1 : Int) 0), (Value.int (0 : Int) 0), (Value.int (0 : Int) 0), (Value.int (3 : Int) 0), (Value.ref 321), (Value.bool Bool.true), (Value.int (181 : Int) 0), (Value.ref 322), Value.none, (Value.ref 323), (Value.ref 324), (Value.ref 325), (Value.int (635 : Int) 0), (Value.int (189 : Int) 0), (Value.str (σ "/claim/cut.py") 636)])) #[])),
  (327, (Obj.mk (Value.type "function") Option.none (Data.func (FuncData.mk (σ "closes") (σ "closes") (fnP (nthS p.main.body 39)) (FuncBody.stmts (fnB (nthS p.main.body 39))) (fnS (nthS p.main.body 39)) 3 [] Value.none Value.none Value.none (Value.str (σ "clausemill.parser") 569) Option.none (Value.ref 326) Value.none 0)) #[])),
  (333, (Obj.mk (Value.type "code") Option.none (Data.fields (List.toArray [(Value.str (σ "is_punct") 638), (Value.str (σ "is_punct") 639), (Value.str (σ "/claim/cut.py") 640), (Value.int (191 : Int) 0), (Value.int (2 : Int) 0), (Value.int (0 : Int) 0), (Value.int (0 : Int) 0), (Value.int (3 : Int) 0), (Value.ref 328), (Value.bool Bool.true), (Value.int (181 : Int) 0), (Value.ref 329), Value.none, (Value.ref 330), (Value.ref 331), (Value.ref 332), (Value.int (643 : Int) 0), (Value.int (191 : Int) 0), (Value.str (σ "/claim/cut.py") 644)])) #[])),
  (334, (Obj.mk (Value.type "function") Option.none (Data.func (FuncData.mk (σ "is_punct") (σ "is_punct") (fnP (nthS p.main.body 40)) (FuncBody.stmts (fnB (nthS p.main.body 40))) (fnS (nthS p.main.body 40)) 3 [] Value.none Value.none Value.none (Value.str (σ "clausemill.parser") 569) Option.none (Value.ref 333) Value.none 0)) #[])),
  (347, (Obj.mk (Value.type "code") Option.none (Data.fields (List.toArray [(Value.str (σ "__init__") 658), (Value.str (σ "Parser.__init__") 659), (Value.str (σ "/claim/cut.py") 660), (Value.int (195 : Int) 0), (Value.int (5 : Int) 0), (Value.int (0 : Int) 0), (Value.int (0 : Int) 0), (Value.int (3 : Int) 0), (Value.ref 342), (Value.bool Bool.true), (Value.int (181 : Int) 0), (Value.ref 343), Value.none, (Value.ref 344), (Value.ref 345), (Value.ref 346), (Value.int (666 : Int) 0), (Value.int (195 : Int) 0), (Value.str (σ "/claim/cut.py") 667)])) #[])),
  (348, (Obj.mk (Value.type "function") Option.none (Data.func (FuncData.mk (σ "__init__") (σ "Parser.__init__") (fnP (nthS (clsB (nthS p.main.body 41)) 0)) (FuncBody.stmts (fnB (nthS (clsB (nthS p.main.body 41)) 0))) (fnS (nthS (clsB (nthS p.main.body 41)) 0)) 3 [] Value.none Value.none Value.none (Value.str (σ "clausemill.parser") 569) Option.none (Value.ref 347) Value.none 0)) #[])),
  (354, (Obj.mk (Value.type "code") Option.none (Data.fields (List.toArray [(Value.str (σ "clause") 669), (Value.str (σ "Parser.clause") 670), (Value.str (σ "/claim/cut.py") 671), (Value.int (210 : Int) 0), (Value.int (1 : Int) 0), (Value.int (0 : Int) 0), (Value.int (0 : Int) 0), (Value.int (3 : Int) 0), (Value.ref 349), (Value.bool Bool.true), (Value.int (181 : Int) 0), (Value.ref 350), Value.none, (Value.ref 351), (Value.ref 352), (Value.ref 353), (Value.int (676 : Int) 0), (Value.int (210 : Int) 0), (Value.str (σ "/claim/cut.py") 677)])) #[])),
  (355, (Obj.mk (Value.type "function") Option.none (Data.func (FuncData.mk (σ "clause") (σ "Parser.clause") (fnP (nthS (clsB (nthS p.main.body 41)) 1)) (FuncBody.stmts (fnB (nthS (clsB (nthS p.main.body 41)) 1))) (fnS (nthS (clsB (nthS p.main.body 41)) 1)) 3 [] Value.none Value.none Value.none (Value.str (σ "clausemill.parser") 569) Option.none (Value.ref 354) Value.none 0)) #[])),
  (361, (Obj.mk (Value.type "code") Option.none (Data.fields (List.toArray [(Value.str (σ "singles") 679), (Value.str (σ "Parser.singles") 680), (Value.str (σ "/claim/cut.py") 681), (Value.int (217 : Int) 0), (Value.int (1 : Int) 0), (Value.int (0 : Int) 0), (Value.int (0 : Int) 0), (Value.int (3 : Int) 0), (Value.ref 356), (Value.bool Bool.true), (Value.int (181 : Int) 0), (Value.ref 357), Value.none, (Value.ref 358), (Value.ref 359), (Value.ref 360), (Value.int (683 : Int) 0), (Value.int (217 : Int) 0), (Value.str (σ "/claim/cut.py") 684)])) #[])),
  (362, (Obj.mk (Value.type "function") Option.none (Data.func (FuncData.mk (σ "singles") (σ "Parser.singles") (fnP (nthS (clsB (nthS p.main.body 41)) 2)) (FuncBody.stmts (fnB (nthS (clsB (nthS p.main.body 41)) 2))) (fnS (nthS (clsB (nthS p.main.body 41)) 2)) 3 [] Value.none Value.none Value.none (Value.str (σ "clausemill.parser") 569) Option.none (Value.ref 361) Value.none 0)) #[])),
  (368, (Obj.mk (Value.type "code") Option.none (Data.fields (List.toArray [(Value.str (σ "peek") 686), (Value.str (σ "Parser.peek") 687), (Value.str (σ "/claim/cut.py") 688), (Value.int (220 : Int) 0), (Value.int (1 : Int) 0), (Value.int (0 : Int) 0), (Value.int (0 : Int) 0), (Value.int (3 : Int) 0), (Value.ref 363), (Value.bool Bool.true), (Value.int (181 : Int) 0), (Value.ref 364), Value.none, (Value.ref 365), (Value.ref 366), (Value.ref 367), (Value.int (690 : Int) 0), (Value.int (220 : Int) 0), (Value.str (σ "/claim/cut.py") 691)])) #[])),
  (369, (Obj.mk (Value.type "function") Option.none (Data.func (FuncData.mk (σ "peek") (σ "Parser.peek") (fnP (nthS (clsB (nthS p.main.body 41)) 3)) (FuncBody.stmts (fnB (nthS (clsB (nthS p.main.body 41)) 3))) (fnS (nthS (clsB (nthS p.main.body 41)) 3)) 3 [] Value.none Value.none Value.none (Value.str (σ "clausemill.parser") 569) Option.none (Value.ref 368) Value.none 0)) #[])),
  (375, (Obj.mk (Value.type "code") Option.none (Data.fields (List.toArray [(Value.str (σ "take") 693), (Value.str (σ "Parser.take") 694), (Value.str (σ "/claim/cut.py") 695), (Value.int (223 : Int) 0), (Value.int (1 : Int) 0), (Value.int (0 : Int) 0), (Value.int (0 : Int) 0), (Value.int (3 : Int) 0), (Value.ref 370), (Value.bool Bool.true), (Value.int (181 : Int) 0), (Value.ref 371), Value.none, (Value.ref 372), (Value.ref 373), (Value.ref 374), (Value.int (698 : Int) 0), (Value.int (223 : Int) 0), (Value.str (σ "/claim/cut.py") 699)])) #[])),
  (376, (Obj.mk (Value.type "function") Option.none (Data.func (FuncData.mk (σ "take") (σ "Parser.take") (fnP (nthS (clsB (nthS p.main.body 41)) 4)) (FuncBody.stmts (fnB (nthS (clsB (nthS p.main.body 41)) 4))) (fnS (nthS (clsB (nthS p.main.body 41)) 4)) 3 [] Value.none Value.none Value.none (Value.str (σ "clausemill.parser") 569) Option.none (Value.ref 375) Value.none 0)) #[])),
  (382, (Obj.mk (Value.type "code") Option.none (Data.fields (List.toArray [(Value.str (σ "fault") 701), (Value.str (σ "Parser.fault") 702), (Value.str (σ "/claim/cut.py") 703), (Value.int (228 : Int) 0), (Value.int (3 : Int) 0), (Value.int (0 : Int) 0), (Value.int (0 : Int) 0), (Value.int (3 : Int) 0), (Value.ref 377), (Value.bool Bool.true), (Value.int (181 : Int) 0), (Value.ref 378), Value.none, (Value.ref 379), (Value.ref 380), (Value.ref 381), (Value.int (707 : Int) 0), (Value.int (228 : Int) 0), (Value.str (σ "/claim/cut.py") 708)])) #[])),
  (383, (Obj.mk (Value.type "function") Option.none (Data.func (FuncData.mk (σ "fault") (σ "Parser.fault") (fnP (nthS (clsB (nthS p.main.body 41)) 5)) (FuncBody.stmts (fnB (nthS (clsB (nthS p.main.body 41)) 5))) (fnS (nthS (clsB (nthS p.main.body 41)) 5)) 3 [] Value.none Value.none Value.none (Value.str (σ "clausemill.parser") 569) Option.none (Value.ref 382) Value.none 0)) #[])),
  (389, (Obj.mk (Value.type "code") Option.none (Data.fields (List.toArray [(Value.str (σ "misplaced") 710), (Value.str (σ "Parser.misplaced") 711), (Value.str (σ "/claim/cut.py") 712), (Value.int (231 : Int) 0), (Value.int (3 : Int) 0), (Value.int (0 : Int) 0), (Value.int (0 : Int) 0), (Value.int (3 : Int) 0), (Value.ref 384), (Value.bool Bool.true), (Value.int (181 : Int) 0), (Value.ref 385), Value.none, (Value.ref 386), (Value.ref 387), (Value.ref 388), (Value.int (717 : Int) 0), (Value.int (231 : Int) 0), (Value.str (σ "/claim/cut.py") 718)])) #[])),
  (390, (Obj.mk (Value.type "function") Option.none (Data.func (FuncData.mk (σ "misplaced") (σ "Parser.misplaced") (fnP (nthS (clsB (nthS p.main.body 41)) 6)) (FuncBody.stmts (fnB (nthS (clsB (nthS p.main.body 41)) 6))) (fnS (nthS (clsB (nthS p.main.body 41)) 6)) 3 [] Value.none Value.none Value.none (Value.str (σ "clausemill.parser") 569) Option.none (Value.ref 389) Value.none 0)) #[])),
  (396, (Obj.mk (Value.type "code") Option.none (Data.fields (List.toArray [(Value.str (σ "parse") 720), (Value.str (σ "Parser.parse") 721), (Value.str (σ "/claim/cut.py") 722), (Value.int (241 : Int) 0), (Value.int (2 : Int) 0), (Value.int (0 : Int) 0), (Value.int (0 : Int) 0), (Value.int (3 : Int) 0), (Value.ref 391), (Value.bool Bool.true), (Value.int (181 : Int) 0), (Value.ref 392), Value.none, (Value.ref 393), (Value.ref 394), (Value.ref 395), (Value.int (726 : Int) 0), (Value.int (241 : Int) 0), (Value.str (σ "/claim/cut.py") 727)])) #[])),
  (397, (Obj.mk (Value.type "function") Option.none (Data.func (FuncData.mk (σ "parse") (σ "Parser.parse") (fnP (nthS (clsB (nthS p.main.body 41)) 7)) (FuncBody.stmts (fnB (nthS (clsB (nthS p.main.body 41)) 7))) (fnS (nthS (clsB (nthS p.main.body 41)) 7)) 3 [] Value.none Value.none Value.none (Value.str (σ "clausemill.parser") 569) Option.none (Value.ref 396) Value.none 0)) #[])),
  (403, (Obj.mk (Value.type "code") Option.none (Data.fields (List.toArray [(Value.str (σ "settle") 729), (Value.str (σ "Parser.settle") 730), (Value.str (σ "/claim/cut.py") 731), (Value.int (251 : Int) 0), (Value.int (3 : Int) 0), (Value.int (0 : Int) 0), (Value.int (0 : Int) 0), (Value.int (3 : Int) 0), (Value.ref 398), (Value.bool Bool.true), (Value.int (181 : Int) 0), (Value.ref 399), Value.none, (Value.ref 400), (Value.ref 401), (Value.ref 402), (Value.int (735 : Int) 0), (Value.int (251 : Int) 0), (Value.str (σ "/claim/cut.py") 736)])) #[])),
  (404, (Obj.mk (Value.type "function") Option.none (Data.func (FuncData.mk (σ "settle") (σ "Parser.settle") (fnP (nthS (clsB (nthS p.main.body 41)) 8)) (FuncBody.stmts (fnB (nthS (clsB (nthS p.main.body 41)) 8))) (fnS (nthS (clsB (nthS p.main.body 41)) 8)) 3 [] Value.none Value.none Value.none (Value.str (σ "clausemill.parser") 569) Option.none (Value.ref 403) Value.none 0)) #[])),
  (410, (Obj.mk (Value.type "code") Option.none (Data.fields (List.toArray [(Value.str (σ "enter") 738), (Value.str (σ "Parser.enter") 739), (Value.str (σ "/claim/cut.py") 740), (Value.int (256 : Int) 0), (Value.int (4 : Int) 0), (Value.int (0 : Int) 0), (Value.int (0 : Int) 0), (Value.int (3 : Int) 0), (Value.ref 405), (Value.bool Bool.true), (Value.int (181 : Int) 0), (Value.ref 406), Value.none, (Value.ref 407), (Value.ref 408), (Value.ref 409), (Value.int (746 : Int) 0), (Value.int (256 : Int) 0), (Value.str (σ "/claim/cut.py") 747)])) #[])),
  (411, (Obj.mk (Value.type "function") Option.none (Data.func (FuncData.mk (σ "enter") (σ "Parser.enter") (fnP (nthS (clsB (nthS p.main.body 41)) 9)) (FuncBody.stmts (fnB (nthS (clsB (nthS p.main.body 41)) 9))) (fnS (nthS (clsB (nthS p.main.body 41)) 9)) 3 [] Value.none Value.none Value.none (Value.str (σ "clausemill.parser") 569) Option.none (Value.ref 410) Value.none 0)) #[])),
  (417, (Obj.mk (Value.type "code") Option.none (Data.fields (List.toArray [(Value.str (σ "operand") 749), (Value.str (σ "Parser.operand") 750), (Value.str (σ "/claim/cut.py") 751), (Value.int (263 : Int) 0), (Value.int (1 : Int) 0), (Value.int (0 : Int) 0), (Value.int (0 : Int) 0), (Value.int (3 : Int) 0), (Value.ref 412), (Value.bool Bool.true), (Value.int (181 : Int) 0), (Value.ref 413), Value.none, (Value.ref 414), (Value.ref 415), (Value.ref 416), (Value.int (755 : Int) 0), (Value.int (263 : Int) 0), (Value.str (σ "/claim/cut.py") 756)])) #[])),
  (418, (Obj.mk (Value.type "function") Option.none (Data.func (FuncData.mk (σ "operand") (σ "Parser.operand") (fnP (nthS (clsB (nthS p.main.body 41)) 10)) (FuncBody.stmts (fnB (nthS (clsB (nthS p.main.body 41)) 10))) (fnS (nthS (clsB (nthS p.main.body 41)) 10)) 3 [] Value.none Value.none Value.none (Value.str (σ "clausemill.parser") 569) Option.none (Value.ref 417) Value.none 0)) #[])),
  (424, (Obj.mk (Value.type "code") Option.none (Data.fields (List.toArray [(Value.str (σ "named") 758), (Value.str (σ "Parser.named") 759), (Value.str (σ "/claim/cut.py") 760), (Value.int (288 : Int) 0), (Value.int (3 : Int) 0), (Value.int (0 : Int) 0), (Value.int (0 : Int) 0), (Value.int (3 : Int) 0), (Value.ref 419), (Value.bool Bool.true), (Value.int (181 : Int) 0), (Value.ref 420), Value.none, (Value.ref 421), (Value.ref 422), (Value.ref 423), (Value.int (765 : Int) 0), (Value.int (288 : Int) 0), (Value.str (σ "/claim/cut.py") 766)])) #[])),
  (425, (Obj.mk (Value.type "function") Option.none (Data.func (FuncData.mk (σ "named") (σ "Parser.named") (fnP (nthS (clsB (nthS p.main.body 41)) 11)) (FuncBody.stmts (fnB (nthS (clsB (nthS p.main.body 41)) 11))) (fnS (nthS (clsB (nthS p.main.body 41)) 11)) 3 [] Value.none Value.none Value.none (Value.str (σ "clausemill.parser") 569) Option.none (Value.ref 424) Value.none 0)) #[]))]
noncomputable def KF3 (σ : String → Str) (p : Program) (P : Params) : Frag := [
  (431, (Obj.mk (Value.type "code") Option.none (Data.fields (List.toArray [(Value.str (σ "operator_operand") 768), (Value.str (σ "Parser.operator_operand") 769), (Value.str (σ "/claim/cut.py") 770), (Value.int (300 : Int) 0), (Value.int (3 : Int) 0), (Value.int (0 : Int) 0), (Value.int (0 : Int) 0), (Value.int (3 : Int) 0), (Value.ref 426), (Value.bool Bool.true), (Value.int (181 : Int) 0), (Value.ref 427), Value.none, (Value.ref 428), (Value.ref 429), (Value.ref 430), (Value.int (776 : Int) 0), (Value.int (300 : Int) 0), (Value.str (σ "/claim/cut.py") 777)])) #[])),
  (432, (Obj.mk (Value.type "function") Option.none (Data.func (FuncData.mk (σ "operator_operand") (σ "Parser.operator_operand") (fnP (nthS (clsB (nthS p.main.body 41)) 12)) (FuncBody.stmts (fnB (nthS (clsB (nthS p.main.body 41)) 12))) (fnS (nthS (clsB (nthS p.main.body 41)) 12)) 3 [] Value.none Value.none Value.none (Value.str (σ "clausemill.parser") 569) Option.none (Value.ref 431) Value.none 0)) #[])),
  (438, (Obj.mk (Value.type "code") Option.none (Data.fields (List.toArray [(Value.str (σ "stands_alone") 779), (Value.str (σ "Parser.stands_alone") 780), (Value.str (σ "/claim/cut.py") 781), (Value.int (315 : Int) 0), (Value.int (1 : Int) 0), (Value.int (0 : Int) 0), (Value.int (0 : Int) 0), (Value.int (3 : Int) 0), (Value.ref 433), (Value.bool Bool.true), (Value.int (181 : Int) 0), (Value.ref 434), Value.none, (Value.ref 435), (Value.ref 436), (Value.ref 437), (Value.int (783 : Int) 0), (Value.int (315 : Int) 0), (Value.str (σ "/claim/cut.py") 784)])) #[])),
  (439, (Obj.mk (Value.type "function") Option.none (Data.func (FuncData.mk (σ "stands_alone") (σ "Parser.stands_alone") (fnP (nthS (clsB (nthS p.main.body 41)) 13)) (FuncBody.stmts (fnB (nthS (clsB (nthS p.main.body 41)) 13))) (fnS (nthS (clsB (nthS p.main.body 41)) 13)) 3 [] Value.none Value.none Value.none (Value.str (σ "clausemill.parser") 569) Option.none (Value.ref 438) Value.none 0)) #[])),
  (445, (Obj.mk (Value.type "code") Option.none (Data.fields (List.toArray [(Value.str (σ "variable") 786), (Value.str (σ "Parser.variable") 787), (Value.str (σ "/claim/cut.py") 788), (Value.int (320 : Int) 0), (Value.int (2 : Int) 0), (Value.int (0 : Int) 0), (Value.int (0 : Int) 0), (Value.int (3 : Int) 0), (Value.ref 440), (Value.bool Bool.true), (Value.int (181 : Int) 0), (Value.ref 441), Value.none, (Value.ref 442), (Value.ref 443), (Value.ref 444), (Value.int (792 : Int) 0), (Value.int (320 : Int) 0), (Value.str (σ "/claim/cut.py") 793)])) #[])),
  (446, (Obj.mk (Value.type "function") Option.none (Data.func (FuncData.mk (σ "variable") (σ "Parser.variable") (fnP (nthS (clsB (nthS p.main.body 41)) 14)) (FuncBody.stmts (fnB (nthS (clsB (nthS p.main.body 41)) 14))) (fnS (nthS (clsB (nthS p.main.body 41)) 14)) 3 [] Value.none Value.none Value.none (Value.str (σ "clausemill.parser") 569) Option.none (Value.ref 445) Value.none 0)) #[])),
  (450, (Obj.mk (Value.type "code") Option.none (Data.fields (List.toArray [(Value.str (σ "string") 795), (Value.str (σ "Parser.string") 796), (Value.str (σ "/claim/cut.py") 797), (Value.int (333 : Int) 0), (Value.int (2 : Int) 0), (Value.int (0 : Int) 0), (Value.int (0 : Int) 0), (Value.int (3 : Int) 0), (Value.ref 447), (Value.bool Bool.true), (Value.int (181 : Int) 0), (Value.ref 448), Value.none, Value.none, Value.none, (Value.ref 449), (Value.int (798 : Int) 0), (Value.int (333 : Int) 0), (Value.str (σ "/claim/cut.py") 799)])) #[])),
  (451, (Obj.mk (Value.type "function") Option.none (Data.func (FuncData.mk (σ "string") (σ "Parser.string") (fnP (nthS (clsB (nthS p.main.body 41)) 15)) (FuncBody.stmts (fnB (nthS (clsB (nthS p.main.body 41)) 15))) (fnS (nthS (clsB (nthS p.main.body 41)) 15)) 3 [] Value.none Value.none Value.none (Value.str (σ "clausemill.parser") 569) Option.none (Value.ref 450) Value.none 0)) #[])),
  (457, (Obj.mk (Value.type "code") Option.none (Data.fields (List.toArray [(Value.str (σ "operator_name") 801), (Value.str (σ "Parser.operator_name") 802), (Value.str (σ "/claim/cut.py") 803), (Value.int (340 : Int) 0), (Value.int (2 : Int) 0), (Value.int (0 : Int) 0), (Value.int (0 : Int) 0), (Value.int (3 : Int) 0), (Value.ref 452), (Value.bool Bool.true), (Value.int (181 : Int) 0), (Value.ref 453), Value.none, (Value.ref 454), (Value.ref 455), (Value.ref 456), (Value.int (806 : Int) 0), (Value.int (340 : Int) 0), (Value.str (σ "/claim/cut.py") 807)])) #[])),
  (458, (Obj.mk (Value.type "function") Option.none (Data.func (FuncData.mk (σ "operator_name") (σ "Parser.operator_name") (fnP (nthS (clsB (nthS p.main.body 41)) 16)) (FuncBody.stmts (fnB (nthS (clsB (nthS p.main.body 41)) 16))) (fnS (nthS (clsB (nthS p.main.body 41)) 16)) 3 [] Value.none Value.none Value.none (Value.str (σ "clausemill.parser") 569) Option.none (Value.ref 457) Value.none 0)) #[])),
  (464, (Obj.mk (Value.type "code") Option.none (Data.fields (List.toArray [(Value.str (σ "operator") 809), (Value.str (σ "Parser.operator") 810), (Value.str (σ "/claim/cut.py") 811), (Value.int (349 : Int) 0), (Value.int (1 : Int) 0), (Value.int (0 : Int) 0), (Value.int (0 : Int) 0), (Value.int (3 : Int) 0), (Value.ref 459), (Value.bool Bool.true), (Value.int (181 : Int) 0), (Value.ref 460), Value.none, (Value.ref 461), (Value.ref 462), (Value.ref 463), (Value.int (815 : Int) 0), (Value.int (349 : Int) 0), (Value.str (σ "/claim/cut.py") 816)])) #[])),
  (465, (Obj.mk (Value.type "function") Option.none (Data.func (FuncData.mk (σ "operator") (σ "Parser.operator") (fnP (nthS (clsB (nthS p.main.body 41)) 17)) (FuncBody.stmts (fnB (nthS (clsB (nthS p.main.body 41)) 17))) (fnS (nthS (clsB (nthS p.main.body 41)) 17)) 3 [] Value.none Value.none Value.none (Value.str (σ "clausemill.parser") 569) Option.none (Value.ref 464) Value.none 0)) #[])),
  (471, (Obj.mk (Value.type "code") Option.none (Data.fields (List.toArray [(Value.str (σ "admits") 818), (Value.str (σ "Parser.admits") 819), (Value.str (σ "/claim/cut.py") 820), (Value.int (363 : Int) 0), (Value.int (2 : Int) 0), (Value.int (0 : Int) 0), (Value.int (0 : Int) 0), (Value.int (3 : Int) 0), (Value.ref 466), (Value.bool Bool.true), (Value.int (181 : Int) 0), (Value.ref 467), Value.none, (Value.ref 468), (Value.ref 469), (Value.ref 470), (Value.int (823 : Int) 0), (Value.int (363 : Int) 0), (Value.str (σ "/claim/cut.py") 824)])) #[])),
  (472, (Obj.mk (Value.type "function") Option.none (Data.func (FuncData.mk (σ "admits") (σ "Parser.admits") (fnP (nthS (clsB (nthS p.main.body 41)) 18)) (FuncBody.stmts (fnB (nthS (clsB (nthS p.main.body 41)) 18))) (fnS (nthS (clsB (nthS p.main.body 41)) 18)) 3 [] Value.none Value.none Value.none (Value.str (σ "clausemill.parser") 569) Option.none (Value.ref 471) Value.none 0)) #[])),
  (478, (Obj.mk (Value.type "code") Option.none (Data.fields (List.toArray [(Value.str (σ "shift_infix") 826), (Value.str (σ "Parser.shift_infix") 827), (Value.str (σ "/claim/cut.py") 828), (Value.int (368 : Int) 0), (Value.int (2 : Int) 0), (Value.int (0 : Int) 0), (Value.int (0 : Int) 0), (Value.int (3 : Int) 0), (Value.ref 473), (Value.bool Bool.true), (Value.int (181 : Int) 0), (Value.ref 474), Value.none, (Value.ref 475), (Value.ref 476), (Value.ref 477), (Value.int (833 : Int) 0), (Value.int (368 : Int) 0), (Value.str (σ "/claim/cut.py") 834)])) #[])),
  (479, (Obj.mk (Value.type "function") Option.none (Data.func (FuncData.mk (σ "shift_infix") (σ "Parser.shift_infix") (fnP (nthS (clsB (nthS p.main.body 41)) 19)) (FuncBody.stmts (fnB (nthS (clsB (nthS p.main.body 41)) 19))) (fnS (nthS (clsB (nthS p.main.body 41)) 19)) 3 [] Value.none Value.none Value.none (Value.str (σ "clausemill.parser") 569) Option.none (Value.ref 478) Value.none 0)) #[])),
  (485, (Obj.mk (Value.type "code") Option.none (Data.fields (List.toArray [(Value.str (σ "apply_postfix") 836), (Value.str (σ "Parser.apply_postfix") 837), (Value.str (σ "/claim/cut.py") 838), (Value.int (381 : Int) 0), (Value.int (2 : Int) 0), (Value.int (0 : Int) 0), (Value.int (0 : Int) 0), (Value.int (3 : Int) 0), (Value.ref 480), (Value.bool Bool.true), (Value.int (181 : Int) 0), (Value.ref 481), Value.none, (Value.ref 482), (Value.ref 483), (Value.ref 484), (Value.int (842 : Int) 0), (Value.int (381 : Int) 0), (Value.str (σ "/claim/cut.py") 843)])) #[])),
  (486, (Obj.mk (Value.type "function") Option.none (Data.func (FuncData.mk (σ "apply_postfix") (σ "Parser.apply_postfix") (fnP (nthS (clsB (nthS p.main.body 41)) 20)) (FuncBody.stmts (fnB (nthS (clsB (nthS p.main.body 41)) 20))) (fnS (nthS (clsB (nthS p.main.body 41)) 20)) 3 [] Value.none Value.none Value.none (Value.str (σ "clausemill.parser") 569) Option.none (Value.ref 485) Value.none 0)) #[])),
  (492, (Obj.mk (Value.type "code") Option.none (Data.fields (List.toArray [(Value.str (σ "reduce") 845), (Value.str (σ "Parser.reduce") 846), (Value.str (σ "/claim/cut.py") 847), (Value.int (389 : Int) 0), (Value.int (1 : Int) 0), (Value.int (0 : Int) 0), (Value.int (0 : Int) 0), (Value.int (3 : Int) 0), (Value.ref 487), (Value.bool Bool.true), (Value.int (181 : Int) 0), (Value.ref 488), Value.none, (Value.ref 489), (Value.ref 490), (Value.ref 491), (Value.int (850 : Int) 0), (Value.int (389 : Int) 0), (Value.str (σ "/claim/cut.py") 851)])) #[])),
  (493, (Obj.mk (Value.type "function") Option.none (Data.func (FuncData.mk (σ "reduce") (σ "Parser.reduce") (fnP (nthS (clsB (nthS p.main.body 41)) 21)) (FuncBody.stmts (fnB (nthS (clsB (nthS p.main.body 41)) 21))) (fnS (nthS (clsB (nthS p.main.body 41)) 21)) 3 [] Value.none Value.none Value.none (Value.str (σ "clausemill.parser") 569) Option.none (Value.ref 492) Value.none 0)) #[])),
  (499, (Obj.mk (Value.type "code") Option.none (Data.fields (List.toArray [(Value.str (σ "close") 853), (Value.str (σ "Parser.close") 854), (Value.str (σ "/claim/cut.py") 855), (Value.int (397 : Int) 0), (Value.int (2 : Int) 0), (Value.int (0 : Int) 0), (Value.int (0 : Int) 0), (Value.int (3 : Int) 0), (Value.ref 494), (Value.bool Bool.true), (Value.int (181 : Int) 0), (Value.ref 495), Value.none, (Value.ref 496), (Value.ref 497), (Value.ref 498), (Value.int (860 : Int) 0), (Value.int (397 : Int) 0), (Value.str (σ "/claim/cut.py") 861)])) #[])),
  (500, (Obj.mk (Value.type "function") Option.none (Data.func (FuncData.mk (σ "close") (σ "Parser.close") (fnP (nthS (clsB (nthS p.main.body 41)) 22)) (FuncBody.stmts (fnB (nthS (clsB (nthS p.main.body 41)) 22))) (fnS (nthS (clsB (nthS p.main.body 41)) 22)) 3 [] Value.none Value.none Value.none (Value.str (σ "clausemill.parser") 569) Option.none (Value.ref 499) Value.none 0)) #[])),
  (506, (Obj.mk (Value.type "code") Option.none (Data.fields (List.toArray [(Value.str (σ "separated") 863), (Value.str (σ "Parser.separated") 864), (Value.str (σ "/claim/cut.py") 865), (Value.int (417 : Int) 0), (Value.int (2 : Int) 0), (Value.int (0 : Int) 0), (Value.int (0 : Int) 0), (Value.int (3 : Int) 0), (Value.ref 501), (Value.bool Bool.true), (Value.int (181 : Int) 0), (Value.ref 502), Value.none, (Value.ref 503), (Value.ref 504), (Value.ref 505), (Value.int (869 : Int) 0), (Value.int (417 : Int) 0), (Value.str (σ "/claim/cut.py") 870)])) #[])),
  (507, (Obj.mk (Value.type "function") Option.none (Data.func (FuncData.mk (σ "separated") (σ "Parser.separated") (fnP (nthS (clsB (nthS p.main.body 41)) 23)) (FuncBody.stmts (fnB (nthS (clsB (nthS p.main.body 41)) 23))) (fnS (nthS (clsB (nthS p.main.body 41)) 23)) 3 [] Value.none Value.none Value.none (Value.str (σ "clausemill.parser") 569) Option.none (Value.ref 506) Value.none 0)) #[])),
  (513, (Obj.mk (Value.type "code") Option.none (Data.fields (List.toArray [(Value.str (σ "closed") 872), (Value.str (σ "Parser.closed") 873), (Value.str (σ "/claim/cut.py") 874), (Value.int (425 : Int) 0), (Value.int (2 : Int) 0), (Value.int (0 : Int) 0), (Value.int (0 : Int) 0), (Value.int (3 : Int) 0), (Value.ref 508), (Value.bool Bool.true), (Value.int (181 : Int) 0), (Value.ref 509), Value.none, (Value.ref 510), (Value.ref 511), (Value.ref 512), (Value.int (878 : Int) 0), (Value.int (425 : Int) 0), (Value.str (σ "/claim/cut.py") 879)])) #[])),
  (514, (Obj.mk (Value.type "function") Option.none (Data.func (FuncData.mk (σ "closed") (σ "Parser.closed") (fnP (nthS (clsB (nthS p.main.body 41)) 24)) (FuncBody.stmts (fnB (nthS (clsB (nthS p.main.body 41)) 24))) (fnS (nthS (clsB (nthS p.main.body 41)) 24)) 3 [] Value.none Value.none Value.none (Value.str (σ "clausemill.parser") 569) Option.none (Value.ref 513) Value.none 0)) #[])),
  (516, (Obj.mk (Value.type "dict") Option.none (Data.dict (List.toArray [(DictEntry.mk (PyData.keyHash P (σ "__module__")) (Value.str (σ "__module__") 653) (Value.str (σ "clausemill.parser") 569)), (DictEntry.mk (PyData.keyHash P (σ "__firstlineno__")) (Value.str (σ "__firstlineno__") 657) (Value.int (193 : Int) 656)), (DictEntry.mk (PyData.keyHash P (σ "__init__")) (Value.str (σ "__init__") 668) (Value.ref 348)), (DictEntry.mk (PyData.keyHash P (σ "clause")) (Value.str (σ "clause") 678) (Value.ref 355)), (DictEntry.mk (PyData.keyHash P (σ "singles")) (Value.str (σ "singles") 685) (Value.ref 362)), (DictEntry.mk (PyData.keyHash P (σ "peek")) (Value.str (σ "peek") 692) (Value.ref 369)), (DictEntry.mk (PyData.keyHash P (σ "take")) (Value.str (σ "take") 700) (Value.ref 376)), (DictEntry.mk (PyData.keyHash P (σ "fault")) (Value.str (σ "fault") 709) (Value.ref 383)), (DictEntry.mk (PyData.keyHash P (σ "misplaced")) (Value.str (σ "misplaced") 719) (Value.ref 390)), (DictEntry.mk (PyData.keyHash P (σ "parse")) (Value.str (σ "parse") 728) (Value.ref 397)), (DictEntry.mk (PyData.keyHash P (σ "settle")) (Value.str (σ "settle") 737) (Value.ref 404)), (DictEntry.mk (PyData.keyHash P (σ "enter")) (Value.str (σ "enter") 748) (Value.ref 411)), (DictEntry.mk (PyData.keyHash P (σ "operand")) (Value.str (σ "operand") 757) (Value.ref 418)), (DictEntry.mk (PyData.keyHash P (σ "named")) (Value.str (σ "named") 767) (Value.ref 425)), (DictEntry.mk (PyData.keyHash P (σ "operator_operand")) (Value.str (σ "operator_operand") 778) (Value.ref 432)), (DictEntry.mk (PyData.keyHash P (σ "stands_alone")) (Value.str (σ "stands_alone") 785) (Value.ref 439)), (DictEntry.mk (PyData.keyHash P (σ "variable")) (Value.str (σ "variable") 794) (Value.ref 446)), (DictEntry.mk (PyData.keyHash P (σ "string")) (Value.str (σ "string") 800) (Value.ref 451)), (DictEntry.mk (PyData.keyHash P (σ "operator_name")) (Value.str (σ "operator_name") 808) (Value.ref 458)), (DictEntry.mk (PyData.keyHash P (σ "operator")) (Value.str (σ "operator") 817) (Value.ref 465)), (DictEntry.mk (PyData.keyHash P (σ "admits")) (Value.str (σ "admits") 825) (Value.ref 472)), (DictEntry.mk (PyData.keyHash P (σ "shift_infix")) (Value.str (σ "shift_infix") 835) (Value.ref 479)), (DictEntry.mk (PyData.keyHash P (σ "apply_postfix")) (Value.str (σ "apply_postfix") 844) (Value.ref 486)), (DictEntry.mk (PyData.keyHash P (σ "reduce")) (Value.str (σ "reduce") 852) (Value.ref 493)), (DictEntry.mk (PyData.keyHash P (σ "close")) (Value.str (σ "close") 862) (Value.ref 500)), (DictEntry.mk (PyData.keyHash P (σ "separated")) (Value.str (σ "separated") 871) (Value.ref 507)), (DictEntry.mk (PyData.keyHash P (σ "closed")) (Value.str (σ "closed") 880) (Value.ref 514)), (DictEntry.mk (PyData.keyHash P (σ "__static_attributes__")) (Value.str (σ "__static_attributes__") 894) (Value.ref 515)), (DictEntry.mk (PyData.keyHash P (σ "__dict__")) (Value.str (σ "__dict__") 896) (Value.ref 518)), (DictEntry.mk (PyData.keyHash P (σ "__weakref__")) (Value.str (σ "__weakref__") 898) (Value.ref 519)), (DictEntry.mk (PyData.keyHash P (σ "__doc__")) (Value.str (σ "__doc__") 899) Value.none)]) 4) #[])),
  (517, (Obj.mk (Value.type "type") Option.none (Data.cls (ClassData.mk (σ "Parser") [(Value.type "object")] [(Value.ref 517), (Value.type "object")] 516 (σ "Parser") Bool.true [] [] Bool.false Option.none Bool.false)) (List.toArray [Option.none, Option.none, (Option.some (Value.str (σ "Parser") 646)), (Option.some (Value.str (σ "Parser") 654)), (Option.some (Value.builtin "object.__new__")), (Option.some (Value.bool Bool.true))]))),
  (518, (Obj.mk (Value.type "getset_descriptor") Option.none (Data.fields (List.toArray [(Value.str (σ "__dict__") 895), (Value.ref 517), (Value.builtin "function.__dict__"), (Value.builtin "function.__dict__#set")])) #[])),
  (519, (Obj.mk (Value.type "getset_descriptor") Option.none (Data.fields (List.toArray [(Value.str (σ "__weakref__") 897), (Value.ref 517), (Value.builtin "ExceptionGroup.__weakref__"), Value.none])) #[])),
  (527, (Obj.mk (Value.type "code") Option.none (Data.fields (List.toArray [(Value.str (σ "_law_figures") 904), (Value.str (σ "_law_figures") 905), (Value.str (σ "/claim/cut.py") 906), (Value.int (431 : Int) 0), (Value.int (2 : Int) 0), (Value.int (0 : Int) 0), (Value.int (0 : Int) 0), (Value.int (3 : Int) 0), (Value.ref 522), (Value.bool Bool.true), (Value.int (181 : Int) 0), (Value.ref 523), Value.none, (Value.ref 524), (Value.ref 525), (Value.ref 526), (Value.int (912 : Int) 0), (Value.int (431 : Int) 0), (Value.str (σ "/claim/cut.py") 913)])) #[])),
  (528, (Obj.mk (Value.type "function") Option.none (Data.func (FuncData.mk (σ "_law_figures") (σ "_law_figures") (fnP (nthS p.main.body 43)) (FuncBody.stmts (fnB (nthS p.main.body 43))) (fnS (nthS p.main.body 43)) 3 [] Value.none Value.none Value.none (Value.str (σ "law_rh0093_01") 902) Option.none (Value.ref 527) Value.none 0)) #[])),
  (534, (Obj.mk (Value.type "code") Option.none (Data.fields (List.toArray [(Value.str (σ "_law_sides") 915), (Value.str (σ "_law_sides") 916), (Value.str (σ "/claim/cut.py") 917), (Value.int (443 : Int) 0), (Value.int (2 : Int) 0), (Value.int (0 : Int) 0), (Value.int (0 : Int) 0), (Value.int (3 : Int) 0), (Value.ref 529), (Value.bool Bool.true), (Value.int (181 : Int) 0), (Value.ref 530), Value.none, (Value.ref 531), (Value.ref 532), (Value.ref 533), (Value.int (922 : Int) 0), (Value.int (443 : Int) 0), (Value.str (σ "/claim/cut.py") 923)])) #[])),
  (535, (Obj.mk (Value.type "function") Option.none (Data.func (FuncData.mk (σ "_law_sides") (σ "_law_sides") (fnP (nthS p.main.body 44)) (FuncBody.stmts (fnB (nthS p.main.body 44))) (fnS (nthS p.main.body 44)) 3 [] Value.none Value.none Value.none (Value.str (σ "law_rh0093_01") 902) Option.none (Value.ref 534) Value.none 0)) #[])),
  (541, (Obj.mk (Value.type "code") Option.none (Data.fields (List.toArray [(Value.str (σ "_law_least") 925), (Value.str (σ "_law_least") 926), (Value.str (σ "/claim/cut.py") 927), (Value.int (447 : Int) 0), (Value.int (2 : Int) 0), (Value.int (0 : Int) 0), (Value.int (0 : Int) 0), (Value.int (3 : Int) 0), (Value.ref 536), (Value.bool Bool.true), (Value.int (181 : Int) 0), (Value.ref 537), Value.none, (Value.ref 538), (Value.ref 539), (Value.ref 540), (Value.int (939 : Int) 0), (Value.int (447 : Int) 0), (Value.str (σ "/claim/cut.py") 940)])) #[])),
  (542, (Obj.mk (Value.type "function") Option.none (Data.func (FuncData.mk (σ "_law_least") (σ "_law_least") (fnP (nthS p.main.body 45)) (FuncBody.stmts (fnB (nthS p.main.body 45))) (fnS (nthS p.main.body 45)) 3 [] Value.none Value.none Value.none (Value.str (σ "law_rh0093_01") 902) Option.none (Value.ref 541) Value.none 0)) #[])),
  (548, (Obj.mk (Value.type "code") Option.none (Data.fields (List.toArray [(Value.str (σ "_law_unfold") 942), (Value.str (σ "_law_unfold") 943), (Value.str (σ "/claim/cut.py") 944), (Value.int (469 : Int) 0), (Value.int (3 : Int) 0), (Value.int (0 : Int) 0), (Value.int (0 : Int) 0), (Value.int (3 : Int) 0), (Value.ref 543), (Value.bool Bool.true), (Value.int (181 : Int) 0), (Value.ref 544), Value.none, (Value.ref 545), (Value.ref 546), (Value.ref 547), (Value.int (956 : Int) 0), (Value.int (469 : Int) 0), (Value.str (σ "/claim/cut.py") 957)])) #[])),
  (549, (Obj.mk (Value.type "function") Option.none (Data.func (FuncData.mk (σ "_law_unfold") (σ "_law_unfold") (fnP (nthS p.main.body 46)) (FuncBody.stmts (fnB (nthS p.main.body 46))) (fnS (nthS p.main.body 46)) 3 [] Value.none Value.none Value.none (Value.str (σ "law_rh0093_01") 902) Option.none (Value.ref 548) Value.none 0)) #[])),
  (555, (Obj.mk (Value.type "code") Option.none (Data.fields (List.toArray [(Value.str (σ "law") 959), (Value.str (σ "law") 960), (Value.str (σ "/claim/cut.py") 961), (Value.int (484 : Int) 0), (Value.int (1 : Int) 0), (Value.int (0 : Int) 0), (Value.int (0 : Int) 0), (Value.int (3 : Int) 0), (Value.ref 550), (Value.bool Bool.true), (Value.int (181 : Int) 0), (Value.ref 551), Value.none, (Value.ref 552), (Value.ref 553), (Value.ref 554), (Value.int (985 : Int) 0), (Value.int (484 : Int) 0), (Value.str (σ "/claim/cut.py") 986)])) #[])),
  (556, (Obj.mk (Value.type "function") Option.none (Data.func (FuncData.mk (σ "law") (σ "law") (fnP (nthS p.main.body 47)) (FuncBody.stmts (fnB (nthS p.main.body 47))) (fnS (nthS p.main.body 47)) 3 [] Value.none Value.none Value.none (Value.str (σ "law_rh0093_01") 902) Option.none (Value.ref 555) Value.none 0)) #[]))]
noncomputable def KF (σ : String → Str) (p : Program) (P : Params) : Frag := KF0 σ p P ++ KF1 σ p P ++ KF2 σ p P ++ KF3 σ p P
noncomputable def asF : List Addr := [2, 3, 20, 21, 30, 31, 32, 47, 48, 50, 51, 59, 60, 66, 67, 80, 81, 87, 88, 94, 95, 101, 102, 108, 109, 115, 116, 122, 123, 129, 130, 136, 137, 143, 144, 150, 151, 153, 154, 155, 156, 165, 166, 172, 173, 179, 180, 186, 187, 188, 194, 195, 196, 197, 198, 204, 205, 211, 212, 218, 219, 227, 233, 234, 240, 241, 247, 248, 254, 255, 261, 262, 268, 269, 275, 276, 282, 283, 285, 286, 287, 288, 291, 292, 305, 306, 308, 309, 310, 311, 319, 320, 326, 327, 333, 334, 347, 348, 354, 355, 361, 362, 368, 369, 375, 376, 382, 383, 389, 390, 396, 397, 403, 404, 410, 411, 417, 418, 424, 425, 431, 432, 438, 439, 445, 446, 450, 451, 457, 458, 464, 465, 471, 472, 478, 479, 485, 486, 492, 493, 499, 500, 506, 507, 513, 514, 516, 517, 518, 519, 527, 528, 534, 535, 541, 542, 548, 549, 555, 556]
noncomputable def KK (P : Params) : Frag := KF Str.ofString pw P
theorem asF_eq (P : Params) : asF = (KK P).map (·.1) := by kernel_rfl
noncomputable abbrev obsF (s : Shared) : List (Option Obj) := asF.map s.heap.get?
noncomputable abbrev valF (w : World) : List (Option Obj) := (KK w.params).map fun p => some p.2

theorem keyB (w : World) (os : OsState) : (runF w os).map (fun s => ((staticsOk (importedModules pw.main.body) (boot_heap w.params) s.abs.heap && namesBound pw s.abs.heap && gensDone s.abs && laidKept (boot_heap w.params) s.abs.heap), obsF s.abs)) = some (true, valF w) := by
  unfold valF KK runF
  rw [pq_eq, strQ_eq, Fast.te10156331382660048174, Fast.te6613529449190102663, Fast.te11892475500146522536, Fast.te14364793385576792824, Fast.te5923862056798008813]
  kernel_rfl
theorem keyC (w : World) (os : OsState) : (runF w os).map (fun s => openSeen (view pw kp) lsN (importedModules pw.main.body) xtN true s.abs) = some (openGood (view pw kp) lsN) := by
  unfold xtN lsN lvN runF
  rw [pq_eq, strQ_eq, Fast.te10156331382660048174, Fast.te6613529449190102663, Fast.te11892475500146522536, Fast.te14364793385576792824, Fast.te4187177175401517315, Fast.te5923862056798008813]
  kernel_rfl

theorem left_of {p q : Program} {loose : List Str} {Xt : Shared → Bool} {α : Type} {Yf : Shared → α} {Ya : World → α} {N n₀ : Nat} {ann : Option Value} {H : Params → Heap} {T : Params → BT} {d₀ : Drawn} {k₀ : Nat}
    (ho : ∀ w : World, (fencedOpening treeTable p w N).map (fun s => (s.heap, s.gens, s.drawn, s.toks)) = some (H w.params, Array.mk [], d₀, k₀))
    (ha : ∀ P, absHeap (T P) n₀ (H P).life = H P) (z1 : ∀ P, ((H P).isNs mainGlobals && (Array.mk [] : Array GenState).size == 0) = true) (z2 : ∀ P, (H P).objs.size = n₀) (z3 : ∀ P, (H P).nsMap mainGlobals "__annotations__" = ann)
    (kB : ∀ w os, (runW through (stepOk n₀ ann) (stepT (denote treeTable) p w) N ⟨T w.params, n₀, (H w.params).life, Array.mk [], d₀, k₀, os⟩ (topStub p)).map (fun s => ((staticsOk (importedModules p.main.body) (H w.params) s.abs.heap && namesBound p s.abs.heap && gensDone s.abs && laidKept (H w.params) s.abs.heap), Yf s.abs)) = some (true, Ya w))
    (kC : ∀ w os, (runW through (stepOk n₀ ann) (stepT (denote treeTable) p w) N ⟨T w.params, n₀, (H w.params).life, Array.mk [], d₀, k₀, os⟩ (topStub p)).map (fun s => openSeen q loose (importedModules p.main.body) Xt true s.abs) = some (openGood q loose)) : LeftO p q loose Xt Yf Ya N := by
  intro w
  obtain ⟨s, hs, hv⟩ := Option.map_eq_some_iff.mp (ho w)
  obtain ⟨h, gs, d, k, os⟩ := s
  simp only [Prod.mk.injEq] at hv
  obtain ⟨rfl, rfl, rfl, rfl⟩ := hv
  obtain ⟨sT, hr, hl⟩ := Option.map_eq_some_iff.mp (kB w os)
  have hc := kC w os
  rw [hr] at hc
  have hc := Option.some.inj hc
  have hrun := run_of hr
  have habs : SharedT.abs ⟨T w.params, n₀, (H w.params).life, Array.mk [], d, k, os⟩ = ⟨H w.params, Array.mk [], d, k, os⟩ := by
    show Shared.mk _ _ _ _ _ = _
    rw [ha]
  rw [habs] at hrun
  obtain ⟨l1, l2⟩ := Prod.mk.inj hl
  have t : topFrom treeTable p w N ⟨H w.params, Array.mk [], d, k, os⟩ = some sT.abs := by
    unfold topFrom
    dsimp only
    rw [z1, z2, z3, hrun]
    show (match staticsOk (importedModules p.main.body) (H w.params) sT.abs.heap && namesBound p sT.abs.heap && gensDone sT.abs && laidKept (H w.params) sT.abs.heap with | true => _ | false => _) = _
    rw [l1]
  unfold openEnds
  rw [hs]
  show (topFrom treeTable p w N _).map _ = _
  rw [t]
  exact congrArg some (Prod.ext hc l2)
theorem fence0 (s : Shared) : fenceModules? pw s = some s := by kernel_rfl
theorem open0 : opening pw = plainProg pw.main.scope.names := by kernel_rfl
theorem left : LeftO pw (view pw kp) lsN xtN obsF valF 3600 :=
  left_of (boot_open open0 (by kernel_rfl) fence0) abs0 (fun P => by kernel_rfl) (fun P => by kernel_rfl) (fun P => by kernel_rfl) keyB keyC
open PySem PySem.W PyProof.Rows PySem.Calls
noncomputable def rq : OpenLaw := { prog := pq, name := strQ "law", about := [strQ "Parser", strQ "parse"], foot := 5, most := some 63, bound := none, writes := false }
theorem rq_eq : PySem.Challenge.rw_rh0093_01 = rq := by
  unfold PySem.Challenge.rw_rh0093_01 rq
  rw [← strQ_eq, ← pq_eq]
theorem said0 : PySem.Challenge.rw_rh0093_01.wellSaid = true := by
  rw [rq_eq, Fast.te9446332074065402090]
  kernel_rfl
noncomputable abbrev lawS : Stmt := nthS pw.main.body 47
noncomputable def fnO : Stmt → Pos
  | .FunctionDef _ _ _ _ _ _ _ _ _ o => o
  | _ => ⟨0, 0, 0, 0⟩
noncomputable abbrev lawD : DefRec := { name := Str.ofString "law", params := fnP lawS, body := fnB lawS, scope := fnS lawS, pos := fnO lawS }
theorem hdef0 : defOf (view pw kp) PySem.Challenge.rw_rh0093_01.row.name = some (lawD, []) := by
  show defOf (view pw kp) (Str.ofString "law") = _
  unfold lawD lawS
  rw [pq_eq, strQ_eq]
  kernel_rfl
theorem hp0 : PySem.Challenge.rw_rh0093_01.row.prog.theDef PySem.Challenge.rw_rh0093_01.row.name = some (lawD.params, lawD.body, lawD.scope) := by
  show Program.theDef pw (Str.ofString "law") = some (fnP lawS, fnB lawS, fnS lawS)
  unfold lawS
  rw [pq_eq, strQ_eq, Fast.te10235530238920679567]
  kernel_rfl
theorem hk0 : kwWritten? lawD.params.kwonlyargs lawD.params.kw_defaults = some [] := by
  kernel_rfl
theorem ok0 : (chainsOk (view pw kp) && opensWell PySem.Challenge.rw_rh0093_01.row.prog && (frees PySem.Challenge.rw_rh0093_01.row.toRowW && PySem.Challenge.rw_rh0093_01.row.within.isEmpty)) = true := by
  rw [rq_eq, pq_eq, Fast.te2368527892694137696]
  kernel_rfl
theorem bare0 : PySem.Challenge.rw_rh0093_01.row.prog.bare := ⟨rfl, rfl, rfl, rfl, rfl, by decide +kernel⟩
open PySem PySem.W PySem.Calls PyProof.Rows
inductive AV where
  | none | bool (b : Bool) | int (i : Int) | str (s : Str) | tup (l : List AV) | ref (a : Addr) | oth (v : Value)

mutual
noncomputable def VR (h : Heap) : AV → Value → Prop
  | .none, v => v = Value.none
  | .bool b, v => v = Value.bool b
  | .int i, v => ∃ t, v = Value.int i t
  | .str s, v => ∃ t, v = Value.str s t
  | .tup l, v => ∃ a items, v = Value.ref a ∧ IsTup h a (List.toArray items) ∧ VRs h l items
  | .ref a, v => v = Value.ref a
  | .oth x, v => v = x
noncomputable def VRs (h : Heap) : List AV → List Value → Prop
  | [], vs => vs = []
  | x :: l, vs => ∃ v r, vs = v :: r ∧ VR h x v ∧ VRs h l r
end
mutual
theorem VR.keep {h h' : Heap} (k : ∀ a items, IsTup h a items → IsTup h' a items) : ∀ {x : AV} {v : Value}, VR h x v → VR h' x v
  | .none, _, e => by simpa only [VR] using e
  | .bool _, _, e => by simpa only [VR] using e
  | .int _, _, e => by simpa only [VR] using e
  | .str _, _, e => by simpa only [VR] using e
  | .ref _, _, e => by simpa only [VR] using e
  | .oth _, _, e => by simpa only [VR] using e
  | .tup l, _, e => by
    simp only [VR] at e ⊢
    obtain ⟨a, items, rfl, t, r⟩ := e
    exact ⟨a, items, rfl, k _ _ t, VRs.keep k r⟩
theorem VRs.keep {h h' : Heap} (k : ∀ a items, IsTup h a items → IsTup h' a items) : ∀ {l : List AV} {vs : List Value}, VRs h l vs → VRs h' l vs
  | [], _, e => by simpa only [VRs] using e
  | _ :: _, _, e => by
    simp only [VRs] at e ⊢
    obtain ⟨v, r, rfl, a, b⟩ := e
    exact ⟨v, r, rfl, VR.keep k a, VRs.keep k b⟩
end
theorem VR.intI {h : Heap} {i : Int} {t : Tok} : VR h (.int i) (.int i t) := by simp only [VR]; exact ⟨t, rfl⟩
theorem VR.strI {h : Heap} {i : Str} {t : Tok} : VR h (.str i) (.str i t) := by simp only [VR]; exact ⟨t, rfl⟩
theorem VR.boolI {h : Heap} {b : Bool} : VR h (.bool b) (.bool b) := by simp only [VR]
theorem VR.noneI {h : Heap} : VR h .none .none := by simp only [VR]
theorem VR.refI {h : Heap} {a : Addr} : VR h (.ref a) (.ref a) := by simp only [VR]
theorem VR.othI {h : Heap} {v : Value} : VR h (.oth v) v := by simp only [VR]
theorem VR.tupI {h : Heap} {a : Addr} {items : List Value} {l : List AV} (t : IsTup h a items.toArray) (r : VRs h l items) : VR h (.tup l) (.ref a) := by
  simp only [VR]; exact ⟨a, items, rfl, t, r⟩
theorem VR.intE {h : Heap} {i : Int} {v : Value} (e : VR h (.int i) v) : ∃ t, v = .int i t := by simpa only [VR] using e
theorem VR.strE {h : Heap} {i : Str} {v : Value} (e : VR h (.str i) v) : ∃ t, v = .str i t := by simpa only [VR] using e
theorem VR.boolE {h : Heap} {b : Bool} {v : Value} (e : VR h (.bool b) v) : v = .bool b := by simpa only [VR] using e
theorem VR.noneE {h : Heap} {v : Value} (e : VR h .none v) : v = .none := by simpa only [VR] using e
theorem VR.refE {h : Heap} {a : Addr} {v : Value} (e : VR h (.ref a) v) : v = .ref a := by simpa only [VR] using e
theorem VR.othE {h : Heap} {x v : Value} (e : VR h (.oth x) v) : v = x := by simpa only [VR] using e
theorem VR.tupE {h : Heap} {l : List AV} {v : Value} (e : VR h (.tup l) v) : ∃ a items, v = .ref a ∧ IsTup h a (List.toArray items) ∧ VRs h l items := by simpa only [VR] using e
theorem VRs.consE {h : Heap} {x : AV} {l : List AV} {vs : List Value} (e : VRs h (x :: l) vs) : ∃ v r, vs = v :: r ∧ VR h x v ∧ VRs h l r := by simpa only [VRs] using e
theorem VRs.nilE {h : Heap} {vs : List Value} (e : VRs h [] vs) : vs = [] := by simpa only [VRs] using e
theorem VRs.nil {h : Heap} : VRs h [] [] := by simp only [VRs]
theorem VRs.cons {h : Heap} {x : AV} {l : List AV} {v : Value} {r : List Value} (a : VR h x v) (b : VRs h l r) : VRs h (x :: l) (v :: r) := by
  simp only [VRs]; exact ⟨v, r, rfl, a, b⟩
theorem VRs.length {h : Heap} : ∀ {l : List AV} {vs : List Value}, VRs h l vs → vs.length = l.length
  | [], _, e => by simp only [VRs] at e; rw [e]; rfl
  | _ :: _, _, e => by simp only [VRs] at e; obtain ⟨v, r, rfl, _, b⟩ := e; simp [b.length]
theorem VRs.get {h : Heap} : ∀ {l : List AV} {vs : List Value}, VRs h l vs → ∀ {i : Nat} {a : AV}, l[i]? = some a → ∃ v, vs[i]? = some v ∧ VR h a v
  | [], _, _, _, _, e => by simp at e
  | x :: l, vs, e, i, a, ha => by
    simp only [VRs] at e
    obtain ⟨v, r, rfl, h1, h2⟩ := e
    cases i with
    | zero => simp at ha; subst ha; exact ⟨v, rfl, h1⟩
    | succ i => simpa using h2.get (by simpa using ha)
theorem VRs.get' {h : Heap} : ∀ {l : List AV} {vs : List Value}, VRs h l vs → ∀ {i : Nat} {v : Value}, vs[i]? = some v → ∃ a, l[i]? = some a ∧ VR h a v
  | [], _, e, _, _, ha => by simp only [VRs] at e; subst e; simp at ha
  | x :: l, vs, e, i, a, ha => by
    simp only [VRs] at e
    obtain ⟨v, r, rfl, h1, h2⟩ := e
    cases i with
    | zero => simp at ha; subst ha; exact ⟨x, rfl, h1⟩
    | succ i => simpa using h2.get' (by simpa using ha)
theorem VRs.append {h : Heap} : ∀ {l l' : List AV} {vs vs' : List Value}, VRs h l vs → VRs h l' vs' → VRs h (l ++ l') (vs ++ vs')
  | [], _, _, _, e, f => by simp only [VRs] at e; subst e; simpa using f
  | _ :: _, _, _, _, e, f => by
    simp only [VRs] at e
    obtain ⟨v, r, rfl, h1, h2⟩ := e
    exact VRs.cons h1 (h2.append f)
theorem VRs.one {h : Heap} {x : AV} {v : Value} (a : VR h x v) : VRs h [x] [v] := .cons a .nil
theorem VRs.take {h : Heap} : ∀ {l : List AV} {vs : List Value} (n : Nat), VRs h l vs → VRs h (l.take n) (vs.take n)
  | [], _, n, e => by simp only [VRs] at e; subst e; simpa using VRs.nil
  | _ :: _, _, 0, _ => by simpa using VRs.nil
  | _ :: _, _, n + 1, e => by
    simp only [VRs] at e
    obtain ⟨v, r, rfl, h1, h2⟩ := e
    simpa using VRs.cons h1 (h2.take n)
theorem VRs.drop {h : Heap} : ∀ {l : List AV} {vs : List Value} (n : Nat), VRs h l vs → VRs h (l.drop n) (vs.drop n)
  | [], _, n, e => by simp only [VRs] at e; subst e; simpa using VRs.nil
  | _ :: _, _, 0, e => by simpa using e
  | _ :: _, _, n + 1, e => by
    simp only [VRs] at e
    obtain ⟨v, r, rfl, h1, h2⟩ := e
    simpa using h2.drop n
/-- an option of both worlds -/
noncomputable def OVR (h : Heap) : Option AV → Option Value → Prop
  | .none, v => v = .none
  | .some a, v => ∃ x, v = some x ∧ VR h a x
theorem OVR.keep {h h' : Heap} (k : ∀ a items, IsTup h a items → IsTup h' a items) {a : Option AV} {v : Option Value} (e : OVR h a v) : OVR h' a v := by
  cases a with
  | none => exact e
  | some a => obtain ⟨x, rfl, y⟩ := e; exact ⟨x, rfl, y.keep k⟩
/-- the names of a block, in their order, and what stands under each -/
noncomputable def getN (names : List Str) (vals : List (Option AV)) (x : Str) : Option AV := match names.findIdx? (· == x) with
  | some i => (vals[i]?).join
  | none => none
noncomputable def NIx (names : List Str) (x : Str) (i : Nat) : Prop := names.findIdx? (· == x) = some i
inductive GetAt : List (Option AV) → Nat → AV → Prop
  | here {v r} : GetAt (some v :: r) 0 v
  | there {p r i v} : GetAt r i v → GetAt (p :: r) (i + 1) v
inductive SetAt : List (Option AV) → Nat → AV → List (Option AV) → Prop
  | nil0 {v} : SetAt [] 0 v [some v]
  | nilS {i v r} : SetAt [] i v r → SetAt [] (i + 1) v (none :: r)
  | here {p r v} : SetAt (p :: r) 0 v (some v :: r)
  | there {p r i v r'} : SetAt r i v r' → SetAt (p :: r) (i + 1) v (p :: r')
theorem GetAt.get {m : List (Option AV)} {i : Nat} {v : AV} (g : GetAt m i v) : (m[i]?).join = some v := by
  induction g with
  | here => rfl
  | there _ ih => simpa using ih
theorem SetAt.get {m m' : List (Option AV)} {i : Nat} {v : AV} (g : SetAt m i v m') : ∀ j, (m'[j]?).join = if j = i then some v else (m[j]?).join := by
  induction g with
  | nil0 => intro j; cases j <;> simp
  | nilS _ ih => intro j; cases j with
    | zero => simp
    | succ j => simpa using ih j
  | here => intro j; cases j <;> simp
  | there _ ih => intro j; cases j with
    | zero => simp
    | succ j => simpa using ih j
theorem getN_get {names : List Str} {vals : List (Option AV)} {x : Str} {i : Nat} {v : AV} (n : NIx names x i) (g : GetAt vals i v) : getN names vals x = some v := by
  unfold getN; rw [show names.findIdx? (· == x) = some i from n]; exact g.get
theorem getN_set {names : List Str} {vals vals' : List (Option AV)} {x : Str} {i : Nat} {v : AV} (n : NIx names x i) (g : SetAt vals i v vals') (y : Str) :
    getN names vals' y = if y = x then some v else getN names vals y := by
  by_cases h : y = x
  · subst h
    rw [if_pos rfl]; unfold getN
    rw [show names.findIdx? (· == y) = some i from n]
    show (vals'[i]?).join = _
    rw [g.get i, if_pos rfl]
  · rw [if_neg h]
    unfold getN
    cases q : names.findIdx? (· == y) with
    | none => rfl
    | some j =>
      have hj : j ≠ i := by
        rintro rfl
        obtain ⟨hlt, hp, _⟩ := List.findIdx?_eq_some_iff_getElem.mp q
        obtain ⟨hlt', hp', _⟩ := List.findIdx?_eq_some_iff_getElem.mp n
        have := eq_of_beq hp; have := eq_of_beq hp'
        simp_all
      show (vals'[j]?).join = (vals[j]?).join
      rw [g.get j, if_neg hj]
noncomputable def NsR (h : Heap) (a : Addr) (names : List Str) (vals : List (Option AV)) : Prop := ∃ mr, h.Ns a mr ∧ ∀ x, OVR h (getN names vals x) (mr x)
/-- the same of an instance's own dict: and it is no longer than what stands in it -/
noncomputable def NsO (h : Heap) (a : Addr) (names : List Str) (vals : List (Option AV)) : Prop :=
  ∃ o es ep, h.get? a = some o ∧ o.data = .dict es ep ∧ StrKeys es ∧ (∀ x, OVR h (getN names vals x) (nsFind es x)) ∧ es.size ≤ vals.countP (·.isSome)
theorem SetAt.count {m m' : List (Option AV)} {i : Nat} {v : AV} (g : SetAt m i v m') : m'.countP (·.isSome) = m.countP (·.isSome) + (if (m[i]?).join.isSome then 0 else 1) := by
  induction g with
  | nil0 => simp
  | nilS _ ih => simpa using ih
  | @here p r v => cases p <;> simp
  | there _ ih => simp only [List.countP_cons, ih, List.getElem?_cons_succ]; omega
theorem SetAt.len {m m' : List (Option AV)} {i : Nat} {v : AV} (g : SetAt m i v m') : m'.length ≤ max m.length (i + 1) := by
  induction g with
  | nil0 => simp
  | nilS _ ih => simp only [List.length_cons, List.length_nil] at *; omega
  | @here p r v => simp only [List.length_cons] at *; omega
  | there _ ih => simp only [List.length_cons] at *; omega
inductive AO where
  | list (l : List AV)
  | dS (kvs : List (Str × AV)) | dI (kvs : List (Int × AV)) | dT (kvs : List (List Int × AV))
  | inst (C dx : Addr)
  | ns (names : List Str) (vals : List (Option AV))
  | rng (a b : Int)
structure Gl where
  prog : Program
  w : World
  W0 : Heap
  K : Frag
  os0 : OsState
noncomputable abbrev Hp := List (Addr × AO)
noncomputable abbrev Loc := List (Option AV)
inductive PR {κ : Type} (h : Heap) : List (κ × AV) → List (κ × Value) → Prop
  | nil : PR h [] []
  | cons {k x v l r} : VR h x v → PR h l r → PR h ((k, x) :: l) ((k, v) :: r)
inductive PRH {κ : Type} (h : Heap) : List (κ × AV) → List (κ × Addr × Value) → Prop
  | nil : PRH h [] []
  | cons {k x a v l r} : VR h x v → PRH h l r → PRH h ((k, x) :: l) ((k, a, v) :: r)
theorem PR.keep {κ : Type} {h h' : Heap} (k : ∀ a items, IsTup h a items → IsTup h' a items) {l : List (κ × AV)} {r} (e : PR h l r) : PR h' l r := by
  induction e with
  | nil => exact .nil
  | cons a _ ih => exact .cons (a.keep k) ih
theorem PRH.keep {κ : Type} {h h' : Heap} (k : ∀ a items, IsTup h a items → IsTup h' a items) {l : List (κ × AV)} {r} (e : PRH h l r) : PRH h' l r := by
  induction e with
  | nil => exact .nil
  | cons a _ ih => exact .cons (a.keep k) ih
noncomputable def listO (items : List Value) (n : Nat) : Obj := { cls := .type "list", data := .seq items.toArray n }
noncomputable def ORel (G : Gl) (h : Heap) (a : Addr) : AO → Prop
  | .list l => ∃ items n, h.get? a = some (listO items n) ∧ VRs h l items
  | .dS kvs => ∃ r, h.DictOf (strKind G.prog G.w) a r ∧ PR h kvs r
  | .dI kvs => ∃ r, h.DictOf (intKind G.prog G.w) a r ∧ PR h kvs r
  | .dT kvs => ∃ r, h.DictOfH (tupleKind (intKind G.prog G.w)) a r ∧ PRH h kvs r
  | .inst C dx => h.get? a = some (instObj C dx)
  | .ns names vals => NsO h a names vals
  | .rng x y => ∃ t u v, IsRange h a x y 1 t u v
structure HRel (G : Gl) (σ : Hp) (h : Heap) : Prop where
  own : ∀ p ∈ σ, ORel G h p.1 p.2
  nd : (σ.map (·.1)).Nodup
  base : ∀ b o, G.W0.get? b = some o → h.get? b = some o
  apart : ∀ p ∈ σ, G.W0.get? p.1 = none
  lo : ∀ p ∈ σ, 2 ≤ p.1
structure Step (L : Addr) (σ σ' : Hp) (h h' : Heap) : Prop where
  keep : ∀ b o, b ∉ σ.map (·.1) → b ≠ L → h.get? b = some o → h'.get? b = some o
  new : ∀ b ∈ σ'.map (·.1), b ∈ σ.map (·.1) ∨ h.get? b = none
  noL : L ∉ σ'.map (·.1)
theorem Step.refl {L : Addr} {σ : Hp} (n : L ∉ σ.map (·.1)) (h : Heap) : Step L σ σ h h := ⟨fun _ _ _ _ e => e, fun _ e => .inl e, n⟩
theorem Step.trans {L : Addr} {σ₁ σ₂ σ₃ : Hp} {h₁ h₂ h₃ : Heap} (a : Step L σ₁ σ₂ h₁ h₂) (b : Step L σ₂ σ₃ h₂ h₃) : Step L σ₁ σ₃ h₁ h₃ := by
  refine ⟨fun x o hx hL e => b.keep x o (fun q => ?_) hL (a.keep x o hx hL e), fun x hx => ?_, b.noL⟩
  · rcases a.new x q with q | q
    · exact hx q
    · rw [e] at q; cases q
  · rcases b.new x hx with q | q
    · exact a.new x q
    · by_cases h : x ∈ σ₁.map (·.1)
      · exact .inl h
      · cases e : h₁.get? x with
        | none => exact .inr rfl
        | some o =>
          have hL : x ≠ L := by rintro rfl; exact b.noL hx
          rw [a.keep x o h hL e] at q; cases q
/-- a frame -/
structure Fx where
  G : Gl
  fd : FuncData
  L : Addr
  fa : Addr
  A : Around
  n : Nat
noncomputable def Fx.env (X : Fx) : Env := callEnv X.fd X.L X.fa
noncomputable def Fx.M (X : Fx) : Model := model X.G.prog X.G.w
noncomputable def Fx.names (X : Fx) : List Str := X.fd.scope.names.map (·.1)
structure GOk (G : Gl) : Prop where
  kin : G.K.In G.W0
  top : ∃ p loose mg mb, TopRead p loose mg mb G.W0
noncomputable def Rm (A : Around) (n : Nat) : Prop := A.depth + n < recursionLimit ∧ A.units + 5 * n < cLine ∧ A.handled = none
theorem Rm.le {A : Around} {n k : Nat} (r : Rm A n) (h : k ≤ n) : Rm A k := ⟨by have := r.1; omega, by have := r.2.1; omega, r.2.2⟩
structure FxOk (X : Fx) : Prop where
  g : GOk X.G
  room : Rm X.A X.n
  kind : X.fd.scope.kind = .function
  glob : X.fd.globals = mainGlobals
  blt : X.fd.builtins = builtinsNs
  clo : X.fd.closure = []
  lo : 2 ≤ X.L
structure St (X : Fx) (m : Loc) (σ : Hp) (s : Shared) : Prop where
  ok : FxOk X
  hr : HRel X.G σ s.heap
  ns : NsR s.heap X.L X.names m
  noL : X.L ∉ σ.map (·.1)
  newL : X.G.W0.get? X.L = none
  gens : s.gens = #[]
  os : s.os = X.G.os0
theorem ORel.noTup {G : Gl} {h : Heap} {a : Addr} {o : AO} (r : ORel G h a o) {items : Array Value} : ¬ IsTup h a items := by
  rintro ⟨ob, ho, hc, n, hd⟩
  cases o with
  | list l => obtain ⟨i, n', e, _⟩ := r; rw [ho] at e; cases e; exact absurd hc (by simp [listO])
  | dS l => obtain ⟨i, ⟨o', es, ep, e, _, hd', _⟩, _⟩ := r; rw [ho] at e; cases e; rw [hd] at hd'; cases hd'
  | dI l => obtain ⟨i, ⟨o', es, ep, e, _, hd', _⟩, _⟩ := r; rw [ho] at e; cases e; rw [hd] at hd'; cases hd'
  | dT l => obtain ⟨i, ⟨o', es, ep, e, _, hd', _⟩, _⟩ := r; rw [ho] at e; cases e; rw [hd] at hd'; cases hd'
  | inst C dx => have e : h.get? a = some (instObj C dx) := r; rw [ho] at e; cases e; cases hc
  | ns n v => obtain ⟨o', es, ep, e, hd', _⟩ := r; rw [ho] at e; cases e; rw [hd] at hd'; cases hd'
  | rng x y => obtain ⟨t, u, v, e⟩ := r; have e : h.get? a = _ := e; rw [ho] at e; cases e; exact absurd hc (by simp)
theorem NsR.noTup {h : Heap} {a : Addr} {n v} (r : NsR h a n v) {items : Array Value} : ¬ IsTup h a items := by
  rintro ⟨ob, ho, hc, n, hd⟩
  obtain ⟨mr, ⟨o', es, ep, e, hd', _⟩, _⟩ := r; rw [ho] at e; cases e; rw [hd] at hd'; cases hd'
theorem HRel.own_of {G : Gl} {σ : Hp} {h : Heap} (H : HRel G σ h) {a : Addr} (ha : a ∈ σ.map (·.1)) : ∃ o, (a, o) ∈ σ ∧ ORel G h a o := by
  obtain ⟨⟨b, o⟩, hp, rfl⟩ := List.mem_map.mp ha
  exact ⟨o, hp, H.own _ hp⟩
theorem St.tups {X : Fx} {m : Loc} {σ σ' : Hp} {s : Shared} {h' : Heap} (S : St X m σ s) (P : Step X.L σ σ' s.heap h') : ∀ a items, IsTup s.heap a items → IsTup h' a items := by
  rintro a items t
  have n1 : a ∉ σ.map (·.1) := fun q => by obtain ⟨o, _, r⟩ := S.hr.own_of q; exact r.noTup t
  have n2 : a ≠ X.L := by rintro rfl; exact S.ns.noTup t
  obtain ⟨o, ho, r⟩ := t
  exact ⟨o, P.keep a o n1 n2 ho, r⟩
theorem St.vr {X : Fx} {m : Loc} {σ σ' : Hp} {s : Shared} {h' : Heap} (S : St X m σ s) (P : Step X.L σ σ' s.heap h') {a : AV} {v : Value} (e : VR s.heap a v) : VR h' a v := e.keep (S.tups P)
theorem St.vrs {X : Fx} {m : Loc} {σ σ' : Hp} {s : Shared} {h' : Heap} (S : St X m σ s) (P : Step X.L σ σ' s.heap h') {a : List AV} {v : List Value} (e : VRs s.heap a v) : VRs h' a v := e.keep (S.tups P)
theorem St.toks {X : Fx} {m : Loc} {σ : Hp} {s : Shared} (S : St X m σ s) (t : Nat) : St X m σ { s with toks := t } := ⟨S.ok, S.hr, S.ns, S.noL, S.newL, S.gens, S.os⟩
theorem St.kin {X : Fx} {m : Loc} {σ : Hp} {s : Shared} (S : St X m σ s) : X.G.K.In s.heap := S.ok.g.kin.keeps S.hr.base
theorem St.nolim {X : Fx} {m : Loc} {σ : Hp} {s : Shared} (S : St X m σ s) : s.heap.NoLimit := by
  obtain ⟨p, l, mg, mb, T⟩ := S.ok.g.top; exact T.nolimit.keeps S.hr.base
/-- an exception on its way -/
noncomputable def EP (X : Fx) (σ : Hp) (EQ : Addr → Loc → Hp → Prop) (s : Shared) (e : Value) (s' : Shared) : Prop :=
  ∃ x m' σ', e = .ref x ∧ St X m' σ' s' ∧ Step X.L σ σ' s.heap s'.heap ∧ EQ x m' σ'
theorem EP.trans {X : Fx} {σ σ₁ : Hp} {EQ} {s s₁ s' : Shared} {e : Value} (P : Step X.L σ σ₁ s.heap s₁.heap) (h : EP X σ₁ EQ s₁ e s') : EP X σ EQ s e s' := by
  obtain ⟨x, m', σ', a, b, c, d⟩ := h
  exact ⟨x, m', σ', a, b, P.trans c, d⟩
noncomputable def EvAt (X : Fx) (t : Sem Value) (m : Loc) (σ : Hp) (EQ : Addr → Loc → Hp → Prop) (Q : AV → Hp → Prop) (s : Shared) : Prop :=
  wpAny X.M X.A t (fun v s' => ∃ a σ', VR s'.heap a v ∧ St X m σ' s' ∧ Step X.L σ σ' s.heap s'.heap ∧ Q a σ') (EP X σ EQ s) s
noncomputable def Ev (X : Fx) (t : Sem Value) (m : Loc) (σ : Hp) (EQ : Addr → Loc → Hp → Prop) (Q : AV → Hp → Prop) : Prop := ∀ s, St X m σ s → EvAt X t m σ EQ Q s
noncomputable def EvsAt (X : Fx) (t : Sem (List Value)) (m : Loc) (σ : Hp) (EQ : Addr → Loc → Hp → Prop) (Q : List AV → Hp → Prop) (s : Shared) : Prop :=
  wpAny X.M X.A t (fun v s' => ∃ a σ', VRs s'.heap a v ∧ St X m σ' s' ∧ Step X.L σ σ' s.heap s'.heap ∧ Q a σ') (EP X σ EQ s) s
noncomputable def Evs (X : Fx) (t : Sem (List Value)) (m : Loc) (σ : Hp) (EQ : Addr → Loc → Hp → Prop) (Q : List AV → Hp → Prop) : Prop := ∀ s, St X m σ s → EvsAt X t m σ EQ Q s
noncomputable def TtAt (X : Fx) (t : Sem Bool) (m : Loc) (σ : Hp) (EQ : Addr → Loc → Hp → Prop) (Q : Bool → Hp → Prop) (s : Shared) : Prop :=
  wpAny X.M X.A t (fun b s' => ∃ σ', St X m σ' s' ∧ Step X.L σ σ' s.heap s'.heap ∧ Q b σ') (EP X σ EQ s) s
noncomputable def Tt (X : Fx) (t : Sem Bool) (m : Loc) (σ : Hp) (EQ : Addr → Loc → Hp → Prop) (Q : Bool → Hp → Prop) : Prop := ∀ s, St X m σ s → TtAt X t m σ EQ Q s
inductive AF where
  | next | brk | cont | ret (a : AV)
noncomputable def FR (h : Heap) : AF → Flow → Prop
  | .next, f => f = .next
  | .brk, f => f = .brk
  | .cont, f => f = .cont
  | .ret a, f => ∃ v, f = .ret v ∧ VR h a v
noncomputable def XsAt (X : Fx) (t : Sem Flow) (m : Loc) (σ : Hp) (EQ : Addr → Loc → Hp → Prop) (Q : AF → Loc → Hp → Prop) (s : Shared) : Prop :=
  wpAny X.M X.A t (fun f s' => ∃ g m' σ', FR s'.heap g f ∧ St X m' σ' s' ∧ Step X.L σ σ' s.heap s'.heap ∧ Q g m' σ') (EP X σ EQ s) s
noncomputable def Xs (X : Fx) (t : Sem Flow) (m : Loc) (σ : Hp) (EQ : Addr → Loc → Hp → Prop) (Q : AF → Loc → Hp → Prop) : Prop := ∀ s, St X m σ s → XsAt X t m σ EQ Q s
theorem FR.step {X : Fx} {m : Loc} {σ σ' : Hp} {s : Shared} {h' : Heap} (S : St X m σ s) (P : Step X.L σ σ' s.heap h') {g : AF} {f : Flow} (e : FR s.heap g f) : FR h' g f := by
  cases g with
  | ret a => obtain ⟨v, rfl, r⟩ := e; exact ⟨v, rfl, S.vr P r⟩
  | _ => exact e
section
variable {X : Fx} {m : Loc} {σ : Hp} {EQ : Addr → Loc → Hp → Prop}
/-- the value is here -/
theorem done {v : Value} {s : Shared} {a : AV} {Q : AV → Hp → Prop} (S : St X m σ s) (h : VR s.heap a v) (q : Q a σ) :
    ∃ a σ', VR s.heap a v ∧ St X m σ' s ∧ Step X.L σ σ' s.heap s.heap ∧ Q a σ' := ⟨a, σ, h, S, .refl S.noL _, q⟩
theorem doneT {v : Value} {s : Shared} {a : AV} {Q : AV → Hp → Prop} {tk : Nat} (S : St X m σ s) (h : VR s.heap a v) (q : Q a σ) :
    ∃ a σ', VR ({ s with toks := tk } : Shared).heap a v ∧ St X m σ' { s with toks := tk } ∧ Step X.L σ σ' s.heap ({ s with toks := tk } : Shared).heap ∧ Q a σ' := ⟨a, σ, h, S.toks _, .refl S.noL _, q⟩
end
open PySem PySem.W PySem.Calls PyProof.Rows
section
variable {X : Fx} {m : Loc} {σ : Hp} {EQ : Addr → Loc → Hp → Prop}
theorem ev_then {t : Sem Value} {Q : AV → Hp → Prop} {s : Shared} (h : EvAt X t m σ EQ Q s) {Q' : Value → Shared → Prop} {E' : Value → Shared → Prop}
    (k : ∀ v s' a σ', VR s'.heap a v → St X m σ' s' → Step X.L σ σ' s.heap s'.heap → Q a σ' → Q' v s') (ke : ∀ e s', EP X σ EQ s e s' → E' e s') : wpAny X.M X.A t Q' E' s :=
  wpAny_mono h (fun v s' ⟨a, σ', h1, h2, h3, h4⟩ => k v s' a σ' h1 h2 h3 h4) ke
theorem evs_then {t : Sem (List Value)} {Q : List AV → Hp → Prop} {s : Shared} (h : EvsAt X t m σ EQ Q s) {Q' : List Value → Shared → Prop} {E' : Value → Shared → Prop}
    (k : ∀ v s' a σ', VRs s'.heap a v → St X m σ' s' → Step X.L σ σ' s.heap s'.heap → Q a σ' → Q' v s') (ke : ∀ e s', EP X σ EQ s e s' → E' e s') : wpAny X.M X.A t Q' E' s :=
  wpAny_mono h (fun v s' ⟨a, σ', h1, h2, h3, h4⟩ => k v s' a σ' h1 h2 h3 h4) ke
theorem tt_then {t : Sem Bool} {Q : Bool → Hp → Prop} {s : Shared} (h : TtAt X t m σ EQ Q s) {Q' : Bool → Shared → Prop} {E' : Value → Shared → Prop}
    (k : ∀ b s' σ', St X m σ' s' → Step X.L σ σ' s.heap s'.heap → Q b σ' → Q' b s') (ke : ∀ e s', EP X σ EQ s e s' → E' e s') : wpAny X.M X.A t Q' E' s :=
  wpAny_mono h (fun b s' ⟨σ', h2, h3, h4⟩ => k b s' σ' h2 h3 h4) ke
theorem xs_then {t : Sem Flow} {Q : AF → Loc → Hp → Prop} {s : Shared} (h : XsAt X t m σ EQ Q s) {Q' : Flow → Shared → Prop} {E' : Value → Shared → Prop}
    (k : ∀ f s' g m' σ', FR s'.heap g f → St X m' σ' s' → Step X.L σ σ' s.heap s'.heap → Q g m' σ' → Q' f s') (ke : ∀ e s', EP X σ EQ s e s' → E' e s') : wpAny X.M X.A t Q' E' s :=
  wpAny_mono h (fun f s' ⟨g, m', σ', h1, h2, h3, h4⟩ => k f s' g m' σ' h1 h2 h3 h4) ke
/-- from a later state -/
theorem ev_from {t : Sem Value} {Q : AV → Hp → Prop} {s s₁ : Shared} {σ₁ : Hp} (P : Step X.L σ σ₁ s.heap s₁.heap) (h : EvAt X t m σ₁ EQ Q s₁) :
    wpAny X.M X.A t (fun v s' => ∃ a σ', VR s'.heap a v ∧ St X m σ' s' ∧ Step X.L σ σ' s.heap s'.heap ∧ Q a σ') (EP X σ EQ s) s₁ :=
  wpAny_mono h (fun v s' ⟨a, σ', h1, h2, h3, h4⟩ => ⟨a, σ', h1, h2, P.trans h3, h4⟩) fun e s' h => h.trans P
theorem tt_from {t : Sem Bool} {Q : Bool → Hp → Prop} {s s₁ : Shared} {σ₁ : Hp} (P : Step X.L σ σ₁ s.heap s₁.heap) (h : TtAt X t m σ₁ EQ Q s₁) :
    wpAny X.M X.A t (fun b s' => ∃ σ', St X m σ' s' ∧ Step X.L σ σ' s.heap s'.heap ∧ Q b σ') (EP X σ EQ s) s₁ :=
  wpAny_mono h (fun v s' ⟨σ', h2, h3, h4⟩ => ⟨σ', h2, P.trans h3, h4⟩) fun e s' h => h.trans P
theorem xs_from {t : Sem Flow} {m₁ : Loc} {Q : AF → Loc → Hp → Prop} {s s₁ : Shared} {σ₁ : Hp} (P : Step X.L σ σ₁ s.heap s₁.heap) (h : XsAt X t m₁ σ₁ EQ Q s₁) :
    wpAny X.M X.A t (fun f s' => ∃ g m' σ', FR s'.heap g f ∧ St X m' σ' s' ∧ Step X.L σ σ' s.heap s'.heap ∧ Q g m' σ') (EP X σ EQ s) s₁ :=
  wpAny_mono h (fun v s' ⟨a, m', σ', h1, h2, h3, h4⟩ => ⟨a, m', σ', h1, h2, P.trans h3, h4⟩) fun e s' h => h.trans P
/-! constants, names -/
theorem Ev.int {i : Int} {k pos} {Q : AV → Hp → Prop} (q : Q (.int i) σ) : Ev X (eval (.Constant (.int i) k pos) X.env) m σ EQ Q :=
  fun s S => wpAny_Constant_int (doneT S .intI q)
theorem Ev.str {x : Str} {k pos} {Q : AV → Hp → Prop} (q : Q (.str x) σ) : Ev X (eval (.Constant (.str x) k pos) X.env) m σ EQ Q :=
  fun s S => Constant_str (doneT S .strI q)
theorem Ev.boolc {b : Bool} {k pos} {Q : AV → Hp → Prop} (q : Q (.bool b) σ) : Ev X (eval (.Constant (.bool b) k pos) X.env) m σ EQ Q :=
  fun s S => Constant_bool (done S .boolI q)
theorem Ev.nonec {k pos} {Q : AV → Hp → Prop} (q : Q .none σ) : Ev X (eval (.Constant .none k pos) X.env) m σ EQ Q :=
  fun s S => Constant_none (done S .noneI q)
/-- a local name of the block fd, at place i -/
structure Lc (fd : FuncData) (x : Str) (i : Nat) : Prop where
  ix : NIx (fd.scope.names.map (·.1)) x i
  kind : fd.scope.names.lookup x = some .local
  dbg : (x == ("__debug__" : Str)) = false
structure Gb (fd : FuncData) (x : Str) : Prop where
  kind : fd.scope.names.lookup x = some .globalImplicit
  dbg : (x == ("__debug__" : Str)) = false
theorem Ev.name {x : Str} {i : Nat} {a : AV} {pos} {Q : AV → Hp → Prop} (l : Lc X.fd x i) (g : GetAt m i a) (q : Q a σ) : Ev X (eval (.Name x pos) X.env) m σ EQ Q := by
  intro s S
  obtain ⟨mr, hn, hm⟩ := S.ns
  have h := hm x
  rw [show getN X.names m x = some a from getN_get l.ix g] at h
  obtain ⟨v, hv, r⟩ := h
  exact wpAny_Name (wpAny_loadName_local S.ok.kind l.kind hn hv (done S r q)) l.dbg
theorem Ev.glob {x : Str} {v : Value} {a : AV} {pos} {Q : AV → Hp → Prop} (l : Gb X.fd x) (e : nsIn X.G.K mainGlobals x = some (some v)) (ha : ∀ h, VR h a v) (q : Q a σ) :
    Ev X (eval (.Name x pos) X.env) m σ EQ Q := by
  intro s S
  obtain ⟨p, lo, mg, mb, T⟩ := S.ok.g.top
  refine Name_function_global (env := X.env) S.ok.kind l.kind (loadGlobal_global (env := X.env) (mg := mg) ?_ (mg_of S.ok.g.kin T.g e) (done S (ha _) q)) l.dbg
  show s.heap.Ns X.fd.globals mg
  rw [S.ok.glob]; exact T.g.keeps S.hr.base
theorem Ev.blt {x : Str} {v : Value} {pos} {Q : AV → Hp → Prop} (l : Gb X.fd x) (e : nsIn X.G.K mainGlobals x = some none) (hv : bootBuiltins x = some v) (hn : x ≠ "__name__") (q : Q (.oth v) σ) :
    Ev X (eval (.Name x pos) X.env) m σ EQ Q := by
  intro s S
  obtain ⟨p, lo, mg, mb, T⟩ := S.ok.g.top
  refine Name_function_global (env := X.env) S.ok.kind l.kind (loadGlobal_builtin (env := X.env) (mg := mg) (mb := mb) ?_ (mg_none_of S.ok.g.kin T.g e) ?_ ((T.builtins x hn).trans hv)
    (done S .othI q)) l.dbg
  · show s.heap.Ns X.fd.globals mg
    rw [S.ok.glob]; exact T.g.keeps S.hr.base
  · show s.heap.Ns X.fd.builtins mb
    rw [S.ok.blt]; exact T.b.keeps S.hr.base
/-! operators -/
/-- both sides, then the operation -/
noncomputable def Op2 (X : Fx) (m : Loc) (σ : Hp) (EQ : Addr → Loc → Hp → Prop) (f : Value → Value → Sem Value) (a b : AV) (Q : AV → Hp → Prop) : Prop :=
  ∀ v w s, St X m σ s → VR s.heap a v → VR s.heap b w → EvAt X (f v w) m σ EQ Q s
theorem Ev.bin {l op r pos} {Q : AV → Hp → Prop}
    (h : Ev X (eval l X.env) m σ EQ fun a σ₁ => Ev X (eval r X.env) m σ₁ EQ fun b σ₂ => Op2 X m σ₂ EQ (binaryOp op) a b Q) :
    Ev X (eval (.BinOp l op r pos) X.env) m σ EQ Q := by
  intro s S
  refine wpAny_BinOp (ev_then (h s S) (fun v s₁ a σ₁ r₁ S₁ P₁ h₁ => ?_) fun _ _ e => e)
  refine ev_then (h₁ s₁ S₁) (fun w s₂ b σ₂ r₂ S₂ P₂ h₂ => ?_) fun _ _ e => e.trans P₁
  exact ev_from (P₁.trans P₂) (h₂ v w s₂ S₂ (S₁.vr P₂ r₁) r₂)
theorem Ev.cmp {l op r pos} {Q : AV → Hp → Prop} (hm : behindInMarks op r = false)
    (h : Ev X (eval l X.env) m σ EQ fun a σ₁ => Ev X (eval r X.env) m σ₁ EQ fun b σ₂ => Op2 X m σ₂ EQ (compareOp op) a b Q) :
    Ev X (eval (.Compare l [op] [r] pos) X.env) m σ EQ Q := by
  intro s S
  refine wpAny_Compare1 (ev_then (h s S) (fun v s₁ a σ₁ r₁ S₁ P₁ h₁ => ?_) fun _ _ e => e) hm
  refine ev_then (h₁ s₁ S₁) (fun w s₂ b σ₂ r₂ S₂ P₂ h₂ => ?_) fun _ _ e => e.trans P₁
  exact ev_from (P₁.trans P₂) (h₂ v w s₂ S₂ (S₁.vr P₂ r₁) r₂)
variable {a b : Int} {Q : AV → Hp → Prop}
theorem Op2.add (q : Q (.int (a + b)) σ) : Op2 X m σ EQ (binaryOp .Add) (.int a) (.int b) Q := by
  intro _ _ s S r₁ r₂; obtain ⟨t, rfl⟩ := r₁.intE; obtain ⟨u, rfl⟩ := r₂.intE; exact PyProof.Rows.add_int (doneT S .intI q)
theorem Op2.sub (q : Q (.int (a - b)) σ) : Op2 X m σ EQ (binaryOp .Sub) (.int a) (.int b) Q := by
  intro _ _ s S r₁ r₂; obtain ⟨t, rfl⟩ := r₁.intE; obtain ⟨u, rfl⟩ := r₂.intE; exact PyProof.Rows.sub_int (doneT S .intI q)
theorem Op2.mul (hk : IntMulOk a b) (q : Q (.int (a * b)) σ) : Op2 X m σ EQ (binaryOp .Mult) (.int a) (.int b) Q := by
  intro _ _ s S r₁ r₂; obtain ⟨t, rfl⟩ := r₁.intE; obtain ⟨u, rfl⟩ := r₂.intE; exact PyProof.Rows.mul_int (doneT S .intI q) hk
theorem Op2.mod (hb : b ≠ 0) (q : Q (.int (a.fmod b)) σ) : Op2 X m σ EQ (binaryOp .Mod) (.int a) (.int b) Q := by
  intro _ _ s S r₁ r₂; obtain ⟨t, rfl⟩ := r₁.intE; obtain ⟨u, rfl⟩ := r₂.intE; exact PyProof.Rows.mod_int' hb (doneT S .intI q)
theorem Op2.fdiv (hb : b ≠ 0) (hp : Builtin.divisionGoesByPylong a b = false) (q : Q (.int (a.fdiv b)) σ) : Op2 X m σ EQ (binaryOp .FloorDiv) (.int a) (.int b) Q := by
  intro _ _ s S r₁ r₂; obtain ⟨t, rfl⟩ := r₁.intE; obtain ⟨u, rfl⟩ := r₂.intE; exact PyProof.Rows.floordiv_int hb (doneT S .intI q) (.inl hp)
theorem Op2.lt (q : Q (.bool (decide (a < b))) σ) : Op2 X m σ EQ (compareOp .Lt) (.int a) (.int b) Q := by
  intro _ _ s S r₁ r₂; obtain ⟨t, rfl⟩ := r₁.intE; obtain ⟨u, rfl⟩ := r₂.intE; exact PyProof.Rows.lt_int (done S .boolI q)
theorem Op2.le (q : Q (.bool (decide (a ≤ b))) σ) : Op2 X m σ EQ (compareOp .LtE) (.int a) (.int b) Q := by
  intro _ _ s S r₁ r₂; obtain ⟨t, rfl⟩ := r₁.intE; obtain ⟨u, rfl⟩ := r₂.intE; exact PyProof.Rows.le_int (done S .boolI q)
theorem Op2.eqi (q : Q (.bool (a == b)) σ) : Op2 X m σ EQ (compareOp .Eq) (.int a) (.int b) Q := by
  intro _ _ s S r₁ r₂; obtain ⟨t, rfl⟩ := r₁.intE; obtain ⟨u, rfl⟩ := r₂.intE; exact PyProof.Rows.eq_int (done S .boolI q)
end
open PySem PySem.W PySem.Calls PyProof.Rows PySem.SeqAt
mutual
noncomputable def AV.eqv : AV → AV → Bool
  | .none, .none => true
  | .bool a, .bool b => a == b
  | .int a, .int b => a == b
  | .str a, .str b => a == b
  | .tup l, .tup r => eqvs l r
  | _, _ => false
noncomputable def eqvs : List AV → List AV → Bool
  | [], [] => true
  | a :: l, b :: r => a.eqv b && eqvs l r
  | _, _ => false
end
mutual
/-- plain data, n deep at most -/
noncomputable def AV.pl : Nat → AV → Bool
  | _, .none => true
  | _, .int _ => true
  | _, .str _ => true
  | n + 1, .tup l => pls n l
  | _, _ => false
noncomputable def pls : Nat → List AV → Bool
  | _, [] => true
  | n, a :: l => a.pl n && pls n l
end
theorem eqvs_len : ∀ {l r : List AV}, eqvs l r = true → l.length = r.length
  | [], [], _ => rfl
  | [], _ :: _, h => by simp [eqvs] at h
  | _ :: _, [], h => by simp [eqvs] at h
  | _ :: l, _ :: r, h => by simp [eqvs] at h; simp [eqvs_len h.2]
noncomputable def eqIx (l r : List AV) (i : Nat) : Bool := match l[i]?, r[i]? with
  | some a, some b => a.eqv b
  | _, _ => false
theorem eqIx_of {l r : List AV} {i : Nat} (h1 : i < l.length) (h2 : i < r.length) : eqIx l r i = l[i].eqv r[i] := by
  unfold eqIx; rw [List.getElem?_eq_getElem h1, List.getElem?_eq_getElem h2]
theorem eqIx_succ (a b : AV) (l r : List AV) (i : Nat) : eqIx (a :: l) (b :: r) (i + 1) = eqIx l r i := by unfold eqIx; simp
theorem eqIx_zero (a b : AV) (l r : List AV) : eqIx (a :: l) (b :: r) 0 = a.eqv b := by unfold eqIx; simp
theorem eqvs_all : ∀ (l r : List AV), eqvs l r = ((List.range (min l.length r.length)).all (eqIx l r) && l.length == r.length)
  | [], [] => by simp [eqvs]
  | [], _ :: _ => by simp [eqvs]
  | _ :: _, [] => by simp [eqvs]
  | a :: l, b :: r => by
    have ih := eqvs_all l r
    simp only [eqvs, ih, List.length_cons, Nat.add_min_add_right, List.range_succ_eq_map, List.all_cons, List.all_map, Function.comp_def, eqIx_succ, eqIx_zero]
    simp [Bool.and_assoc]
mutual
theorem eqv_iff : ∀ (n k : Nat) (a b : AV), a.pl n = true → b.pl k = true → (a.eqv b = true ↔ a = b)
  | _, _, .none, .none, _, _ => by simp [AV.eqv]
  | _, _, .int a, .int b, _, _ => by simp [AV.eqv]
  | _, _, .str a, .str b, _, _ => by simp [AV.eqv]
  | n + 1, k + 1, .tup l, .tup r, h, h' => by simp only [AV.pl] at h h'; simp only [AV.eqv, AV.tup.injEq]; exact eqvs_iff n k l r h h'
  | _, _, .none, .int _, _, _ => by simp [AV.eqv]
  | _, _, .none, .str _, _, _ => by simp [AV.eqv]
  | _, _, .none, .tup _, _, _ => by simp [AV.eqv]
  | _, _, .int _, .none, _, _ => by simp [AV.eqv]
  | _, _, .int _, .str _, _, _ => by simp [AV.eqv]
  | _, _, .int _, .tup _, _, _ => by simp [AV.eqv]
  | _, _, .str _, .none, _, _ => by simp [AV.eqv]
  | _, _, .str _, .int _, _, _ => by simp [AV.eqv]
  | _, _, .str _, .tup _, _, _ => by simp [AV.eqv]
  | _, _, .tup _, .none, _, _ => by simp [AV.eqv]
  | _, _, .tup _, .int _, _, _ => by simp [AV.eqv]
  | _, _, .tup _, .str _, _, _ => by simp [AV.eqv]
  | 0, _, .tup _, .tup _, h, _ => by simp [AV.pl] at h
  | _, 0, .tup _, .tup _, _, h => by simp [AV.pl] at h
  | _, _, .bool _, _, h, _ => by simp [AV.pl] at h
  | _, _, .ref _, _, h, _ => by simp [AV.pl] at h
  | _, _, .oth _, _, h, _ => by simp [AV.pl] at h
  | _, _, _, .bool _, _, h => by simp [AV.pl] at h
  | _, _, _, .ref _, _, h => by simp [AV.pl] at h
  | _, _, _, .oth _, _, h => by simp [AV.pl] at h
theorem eqvs_iff : ∀ (n k : Nat) (l r : List AV), pls n l = true → pls k r = true → (eqvs l r = true ↔ l = r)
  | _, _, [], [], _, _ => by simp [eqvs]
  | _, _, [], _ :: _, _, _ => by simp [eqvs]
  | _, _, _ :: _, [], _, _ => by simp [eqvs]
  | n, k, a :: l, b :: r, h, h' => by
    simp only [pls, Bool.and_eq_true] at h h'
    simp only [eqvs, Bool.and_eq_true, List.cons.injEq, eqv_iff n k a b h.1 h'.1, eqvs_iff n k l r h.2 h'.2]
end
theorem pls_get {n : Nat} : ∀ {l : List AV}, pls n l = true → ∀ {j : Nat} (h : j < l.length), l[j].pl n = true
  | [], _, _, h => by simp at h
  | a :: l, p, 0, _ => by simp only [pls, Bool.and_eq_true] at p; exact p.1
  | a :: l, p, j + 1, h => by simp only [pls, Bool.and_eq_true] at p; simpa using pls_get p.2 (by simpa using h)
mutual
/-- one value, two readings: the same data -/
theorem vr_fun : ∀ {n k : Nat} {a b : AV} {v : Value} {h : Heap}, a.pl n = true → b.pl k = true → VR h a v → VR h b v → a.eqv b = true
  | n + 1, k + 1, .tup l, .tup r, v, h, p, p', q, q' => by
    obtain ⟨a, is, rfl, t, z⟩ := q.tupE
    obtain ⟨b, js, e, t', z'⟩ := q'.tupE
    cases e
    obtain ⟨o, ho, _, n1, hd⟩ := t
    obtain ⟨o', ho', _, n2, hd'⟩ := t'
    rw [ho] at ho'; cases ho'
    rw [hd] at hd'
    have hij : is = js := by injection hd' with e _; simpa using congrArg Array.toList e
    subst hij
    simp only [AV.pl] at p p'
    simp only [AV.eqv]
    exact vrs_fun p p' z z'
  | _, _, .none, .none, _, _, _, _, q, q' => by simp [AV.eqv]
  | _, _, .int a, .int b, _, _, _, _, q, q' => by obtain ⟨_, rfl⟩ := q.intE; obtain ⟨_, e⟩ := q'.intE; cases e; simp [AV.eqv]
  | _, _, .str a, .str b, _, _, _, _, q, q' => by obtain ⟨_, rfl⟩ := q.strE; obtain ⟨_, e⟩ := q'.strE; cases e; simp [AV.eqv]
  | _, _, .none, .int _, _, _, _, _, q, q' => by obtain rfl := q.noneE; obtain ⟨_, e⟩ := q'.intE; cases e
  | _, _, .none, .str _, _, _, _, _, q, q' => by obtain rfl := q.noneE; obtain ⟨_, e⟩ := q'.strE; cases e
  | _, _, .none, .tup _, _, _, _, _, q, q' => by obtain rfl := q.noneE; obtain ⟨_, _, e, _⟩ := q'.tupE; cases e
  | _, _, .int _, .none, _, _, _, _, q, q' => by obtain ⟨_, rfl⟩ := q.intE; cases q'.noneE
  | _, _, .int _, .str _, _, _, _, _, q, q' => by obtain ⟨_, rfl⟩ := q.intE; obtain ⟨_, e⟩ := q'.strE; cases e
  | _, _, .int _, .tup _, _, _, _, _, q, q' => by obtain ⟨_, rfl⟩ := q.intE; obtain ⟨_, _, e, _⟩ := q'.tupE; cases e
  | _, _, .str _, .none, _, _, _, _, q, q' => by obtain ⟨_, rfl⟩ := q.strE; cases q'.noneE
  | _, _, .str _, .int _, _, _, _, _, q, q' => by obtain ⟨_, rfl⟩ := q.strE; obtain ⟨_, e⟩ := q'.intE; cases e
  | _, _, .str _, .tup _, _, _, _, _, q, q' => by obtain ⟨_, rfl⟩ := q.strE; obtain ⟨_, _, e, _⟩ := q'.tupE; cases e
  | _, _, .tup _, .none, _, _, _, _, q, q' => by obtain ⟨_, _, rfl, _⟩ := q.tupE; cases q'.noneE
  | _, _, .tup _, .int _, _, _, _, _, q, q' => by obtain ⟨_, _, rfl, _⟩ := q.tupE; obtain ⟨_, e⟩ := q'.intE; cases e
  | _, _, .tup _, .str _, _, _, _, _, q, q' => by obtain ⟨_, _, rfl, _⟩ := q.tupE; obtain ⟨_, e⟩ := q'.strE; cases e
  | 0, _, .tup _, .tup _, _, _, h, _, _, _ => by simp [AV.pl] at h
  | _, 0, .tup _, .tup _, _, _, _, h, _, _ => by simp [AV.pl] at h
  | _, _, .bool _, _, _, _, h, _, _, _ => by simp [AV.pl] at h
  | _, _, .ref _, _, _, _, h, _, _, _ => by simp [AV.pl] at h
  | _, _, .oth _, _, _, _, h, _, _, _ => by simp [AV.pl] at h
  | _, _, _, .bool _, _, _, _, h, _, _ => by simp [AV.pl] at h
  | _, _, _, .ref _, _, _, _, h, _, _ => by simp [AV.pl] at h
  | _, _, _, .oth _, _, _, _, h, _, _ => by simp [AV.pl] at h
theorem vrs_fun : ∀ {n k : Nat} {l r : List AV} {vs : List Value} {h : Heap}, pls n l = true → pls k r = true → VRs h l vs → VRs h r vs → eqvs l r = true
  | _, _, [], [], _, _, _, _, _, _ => by simp [eqvs]
  | _, _, [], _ :: _, _, _, _, _, z, z' => by obtain rfl := z.nilE; obtain ⟨_, _, e, _⟩ := z'.consE; cases e
  | _, _, _ :: _, [], _, _, _, _, z, z' => by obtain rfl := z'.nilE; obtain ⟨_, _, e, _⟩ := z.consE; cases e
  | n, k, a :: l, b :: r, _, _, p, p', z, z' => by
    obtain ⟨v, vs, rfl, r1, r2⟩ := z.consE
    obtain ⟨w, ws, e, r1', r2'⟩ := z'.consE
    cases e
    simp only [pls, Bool.and_eq_true] at p p'
    simp only [eqvs, Bool.and_eq_true]
    exact ⟨vr_fun p.1 p'.1 r1 r1', vrs_fun p.2 p'.2 r2 r2'⟩
end
theorem VRs.size {h : Heap} {l : List AV} {vs : List Value} (r : VRs h l vs) : vs.toArray.size = l.length := by simp [r.length]
mutual
theorem eqAt : ∀ {n k : Nat} {a b : AV} {v w : Value} {A : Around} {s : Shared}, a.pl n = true → b.pl k = true → A.units + n < cLine → VR s.heap a v → VR s.heap b w → EqAt A s v w (a.eqv b)
  | _, _, .none, .none, _, _, _, _, _, _, _, r, r' => by obtain rfl := r.noneE; obtain rfl := r'.noneE; simp only [AV.eqv]; exact EqAt.same Value.none
  | _, _, .none, .int _, _, _, _, _, _, _, _, r, r' => by obtain rfl := r.noneE; obtain ⟨_, rfl⟩ := r'.intE; simp only [AV.eqv]; exact EqAt.none_int _ _
  | _, _, .none, .str _, _, _, _, _, _, _, _, r, r' => by obtain rfl := r.noneE; obtain ⟨_, rfl⟩ := r'.strE; simp only [AV.eqv]; exact EqAt.none_str _ _
  | _, _, .none, .tup _, _, _, _, _, _, _, hu, r, r' => by obtain rfl := r.noneE; obtain ⟨_, _, rfl, t, _⟩ := r'.tupE; simp only [AV.eqv]; exact EqAt.none_tuple t (by omega)
  | _, _, .int _, .none, _, _, _, _, _, _, _, r, r' => by obtain ⟨_, rfl⟩ := r.intE; obtain rfl := r'.noneE; simp only [AV.eqv]; exact EqAt.int_none _ _
  | _, _, .int _, .int _, _, _, _, _, _, _, _, r, r' => by obtain ⟨_, rfl⟩ := r.intE; obtain ⟨_, rfl⟩ := r'.intE; simp only [AV.eqv]; exact EqAt.int_int _ _ _ _
  | _, _, .int _, .str _, _, _, _, _, _, _, _, r, r' => by obtain ⟨_, rfl⟩ := r.intE; obtain ⟨_, rfl⟩ := r'.strE; simp only [AV.eqv]; exact EqAt.int_str _ _ _ _
  | _, _, .int _, .tup _, _, _, _, _, _, _, hu, r, r' => by obtain ⟨_, rfl⟩ := r.intE; obtain ⟨_, _, rfl, t, _⟩ := r'.tupE; simp only [AV.eqv]; exact EqAt.int_tuple _ _ t (by omega)
  | _, _, .str _, .none, _, _, _, _, _, _, _, r, r' => by obtain ⟨_, rfl⟩ := r.strE; obtain rfl := r'.noneE; simp only [AV.eqv]; exact EqAt.str_none _ _
  | _, _, .str _, .int _, _, _, _, _, _, _, _, r, r' => by obtain ⟨_, rfl⟩ := r.strE; obtain ⟨_, rfl⟩ := r'.intE; simp only [AV.eqv]; exact EqAt.str_int _ _ _ _
  | _, _, .str _, .str _, _, _, _, _, _, _, _, r, r' => by obtain ⟨_, rfl⟩ := r.strE; obtain ⟨_, rfl⟩ := r'.strE; simp only [AV.eqv]; exact EqAt.str_str _ _ _ _
  | _, _, .str _, .tup _, _, _, _, _, _, _, hu, r, r' => by obtain ⟨_, rfl⟩ := r.strE; obtain ⟨_, _, rfl, t, _⟩ := r'.tupE; simp only [AV.eqv]; exact EqAt.str_tuple _ _ t (by omega)
  | _, _, .tup _, .none, _, _, _, _, _, _, hu, r, r' => by obtain ⟨_, _, rfl, t, _⟩ := r.tupE; obtain rfl := r'.noneE; simp only [AV.eqv]; exact EqAt.tuple_none t (by omega)
  | _, _, .tup _, .int _, _, _, _, _, _, _, hu, r, r' => by obtain ⟨_, _, rfl, t, _⟩ := r.tupE; obtain ⟨_, rfl⟩ := r'.intE; simp only [AV.eqv]; exact EqAt.tuple_int _ _ t (by omega)
  | _, _, .tup _, .str _, _, _, _, _, _, _, hu, r, r' => by obtain ⟨_, _, rfl, t, _⟩ := r.tupE; obtain ⟨_, rfl⟩ := r'.strE; simp only [AV.eqv]; exact EqAt.tuple_str _ _ t (by omega)
  | n + 1, k + 1, .tup l, .tup r, v, w, A, s, h, h', hu, q, q' => by
    obtain ⟨a, is, rfl, t, z⟩ := q.tupE
    obtain ⟨b, js, rfl, t', z'⟩ := q'.tupE
    simp only [AV.pl] at h h'
    have E := eqAts (n := n) (k := k) (l := l) (r := r) (A := A.in1) (s := s) h h' (by show A.units + 1 + n < cLine; omega) z z'
    by_cases hne : a = b
    · subst hne
      obtain ⟨o, ho, _, n1, hd⟩ := t
      obtain ⟨o', ho', _, n2, hd'⟩ := t'
      rw [ho] at ho'; cases ho'
      rw [hd] at hd'
      have hij : is = js := by injection hd' with e _; simpa using congrArg Array.toList e
      subst hij
      have : (AV.tup l).eqv (.tup r) = true := by
        simp only [AV.eqv]
        rw [eqvs_all]
        have hlen : l.length = r.length := by rw [← z.length, ← z'.length]
        simp only [hlen, Nat.min_self, beq_self_eq_true, Bool.and_true, List.all_eq_true, List.mem_range]
        intro i hi
        have h1 : i < l.length := by omega
        rw [eqIx_of h1 hi]
        obtain ⟨v1, hv1, r1⟩ := z.get (List.getElem?_eq_getElem h1)
        obtain ⟨v2, hv2, r2⟩ := z'.get (List.getElem?_eq_getElem hi)
        rw [hv1] at hv2; cases hv2
        exact vr_fun (pls_get h h1) (pls_get h' hi) r1 r2
      rw [this]; exact EqAt.same _
    · have := EqAt.of_refs hne (RcAt.tuples (A := A) t t' (by omega) (e := eqIx l r) fun j h1 h2 => by
        have g1 : j < l.length := by simpa [z.length] using h1
        have g2 : j < r.length := by simpa [z'.length] using h2
        rw [eqIx_of g1 g2]
        have := E j g1 g2
        simpa using this)
      simpa [AV.eqv, eqvs_all, z.length, z'.length] using this
  | 0, _, .tup _, .tup _, _, _, _, _, h, _, _, _, _ => by simp [AV.pl] at h
  | _, 0, .tup _, .tup _, _, _, _, _, _, h, _, _, _ => by simp [AV.pl] at h
  | _, _, .bool _, _, _, _, _, _, h, _, _, _, _ => by simp [AV.pl] at h
  | _, _, .ref _, _, _, _, _, _, h, _, _, _, _ => by simp [AV.pl] at h
  | _, _, .oth _, _, _, _, _, _, h, _, _, _, _ => by simp [AV.pl] at h
  | _, _, _, .bool _, _, _, _, _, _, h, _, _, _ => by simp [AV.pl] at h
  | _, _, _, .ref _, _, _, _, _, _, h, _, _, _ => by simp [AV.pl] at h
  | _, _, _, .oth _, _, _, _, _, _, h, _, _, _ => by simp [AV.pl] at h
theorem eqAts : ∀ {n k : Nat} {l r : List AV} {vs ws : List Value} {A : Around} {s : Shared}, pls n l = true → pls k r = true → A.units + n < cLine → (z : VRs s.heap l vs) → (z' : VRs s.heap r ws) →
    ∀ j (h1 : j < l.length) (h2 : j < r.length), EqAt A s (vs[j]'(by rw [z.length]; exact h1)) (ws[j]'(by rw [z'.length]; exact h2)) (l[j].eqv r[j])
  | _, _, [], _, _, _, _, _, _, _, _, _, _, j, h1, _ => by simp at h1
  | _, _, _ :: _, [], _, _, _, _, _, _, _, _, _, j, _, h2 => by simp at h2
  | n, k, a :: l, b :: r, vs, ws, A, s, h, h', hu, z, z', j, h1, h2 => by
    obtain ⟨v, vs', rfl, r1, r2⟩ := z.consE
    obtain ⟨w, ws', rfl, r1', r2'⟩ := z'.consE
    simp only [pls, Bool.and_eq_true] at h h'
    cases j with
    | zero => simpa using eqAt h.1 h'.1 hu r1 r1'
    | succ j => simpa using eqAts h.2 h'.2 hu r2 r2' j (by simpa using h1) (by simpa using h2)
end
open PySem PySem.W PySem.Calls PyProof.Rows PySem.SeqAt
theorem ORel.keep {G : Gl} {h h' : Heap} (k : ∀ a items, IsTup h a items → IsTup h' a items) {a : Addr} (e : ∀ o, h.get? a = some o → h'.get? a = some o) {ao : AO} (r : ORel G h a ao) : ORel G h' a ao := by
  cases ao with
  | list l => obtain ⟨i, n, x, y⟩ := r; exact ⟨i, n, e _ x, y.keep k⟩
  | dS l => obtain ⟨i, ⟨o, es, ep, x, y⟩, z⟩ := r; exact ⟨i, ⟨o, es, ep, e _ x, y⟩, z.keep k⟩
  | dI l => obtain ⟨i, ⟨o, es, ep, x, y⟩, z⟩ := r; exact ⟨i, ⟨o, es, ep, e _ x, y⟩, z.keep k⟩
  | dT l =>
    obtain ⟨i, ⟨o, es, ep, x, y1, y2, y3, y4, y5⟩, z⟩ := r
    refine ⟨i, ⟨o, es, ep, e _ x, y1, y2, y3, fun p hp => ?_, y5⟩, z.keep k⟩
    obtain ⟨o, items, n, q1, q2, q3, q4⟩ := y4 p hp
    obtain ⟨o', q1', q2', n', q3'⟩ := k p.2.1 items ⟨o, q1, q2, n, q3⟩
    exact ⟨o', items, n', q1', q2', q3', q4⟩
  | inst C dx => exact e _ r
  | ns n v =>
    obtain ⟨o, es, ep, x, y1, y2, z, y3⟩ := r
    exact ⟨o, es, ep, e _ x, y1, y2, fun q => (z q).keep k, y3⟩
  | rng x y => obtain ⟨t, u, v, q⟩ := r; exact ⟨t, u, v, e _ q⟩
theorem NsR.keep {h h' : Heap} (k : ∀ a items, IsTup h a items → IsTup h' a items) {a : Addr} (e : ∀ o, h.get? a = some o → h'.get? a = some o) {n v} (r : NsR h a n v) : NsR h' a n v := by
  obtain ⟨mr, ⟨o, es, ep, x, y⟩, z⟩ := r
  exact ⟨mr, ⟨o, es, ep, e _ x, y⟩, fun q => (z q).keep k⟩
theorem IsTup.keepAll {h h' : Heap} (k : ∀ b o, h.get? b = some o → h'.get? b = some o) : ∀ a items, IsTup h a items → IsTup h' a items := fun _ _ t => t.keeps k
theorem IsTup.keepBut {h h' : Heap} {a : Addr} (k : ∀ b o, b ≠ a → h.get? b = some o → h'.get? b = some o) (n : ∀ items, ¬ IsTup h a items) : ∀ b items, IsTup h b items → IsTup h' b items := by
  rintro b items ⟨o, ho, r⟩
  have : b ≠ a := by rintro rfl; exact n items ⟨o, ho, r⟩
  exact ⟨o, k b o this ho, r⟩
inductive UpdL (a : Addr) (o o' : AO) : Hp → Hp → Prop
  | here {r} : UpdL a o o' ((a, o) :: r) ((a, o') :: r)
  | there {p r r'} : UpdL a o o' r r' → UpdL a o o' (p :: r) (p :: r')
theorem UpdL.fst {a : Addr} {o o' : AO} {σ σ' : Hp} (u : UpdL a o o' σ σ') : σ'.map (·.1) = σ.map (·.1) := by
  induction u with
  | here => rfl
  | there _ ih => simp [ih]
theorem UpdL.mem {a : Addr} {o o' : AO} {σ σ' : Hp} (u : UpdL a o o' σ σ') : (a, o) ∈ σ := by
  induction u with
  | here => exact .head _
  | there _ ih => exact .tail _ ih
theorem UpdL.mem' {a : Addr} {o o' : AO} {σ σ' : Hp} (u : UpdL a o o' σ σ') : (a, o') ∈ σ' := by
  induction u with
  | here => exact .head _
  | there _ ih => exact .tail _ ih
theorem UpdL.cases {a : Addr} {o o' : AO} {σ σ' : Hp} (u : UpdL a o o' σ σ') (nd : (σ.map (·.1)).Nodup) : ∀ p ∈ σ', p = (a, o') ∨ (p ∈ σ ∧ p.1 ≠ a) := by
  induction u with
  | here =>
    intro p hp
    rcases List.mem_cons.mp hp with rfl | hp
    · exact .inl rfl
    · refine .inr ⟨.tail _ hp, fun e => ?_⟩
      simp only [List.map_cons, List.nodup_cons] at nd
      exact nd.1 (e ▸ List.mem_map_of_mem hp)
  | there u ih =>
    rename_i q r r'
    simp only [List.map_cons, List.nodup_cons] at nd
    intro p hp
    rcases List.mem_cons.mp hp with rfl | hp
    · refine .inr ⟨.head _, fun e => nd.1 ?_⟩
      rw [e]; exact List.mem_map_of_mem u.mem
    · rcases ih nd.2 p hp with h | h
      · exact .inl h
      · exact .inr ⟨.tail _ h.1, h.2⟩
section
variable {X : Fx} {m : Loc} {σ : Hp} {s : Shared}
theorem St.lt {a : Addr} {o : AO} (S : St X m σ s) (h : (a, o) ∈ σ) : ∃ ob, s.heap.get? a = some ob := by
  have r := S.hr.own _ h
  cases o with
  | list l => obtain ⟨i, n, x, y⟩ := r; exact ⟨_, x⟩
  | dS l => obtain ⟨i, ⟨o, es, ep, x, y⟩, z⟩ := r; exact ⟨_, x⟩
  | dI l => obtain ⟨i, ⟨o, es, ep, x, y⟩, z⟩ := r; exact ⟨_, x⟩
  | dT l => obtain ⟨i, ⟨o, es, ep, x, y⟩, z⟩ := r; exact ⟨_, x⟩
  | inst C dx => exact ⟨_, r⟩
  | ns n v => obtain ⟨o, es, ep, x, y⟩ := r; exact ⟨_, x⟩
  | rng x y => obtain ⟨t, u, v, q⟩ := r; exact ⟨_, q⟩
theorem St.memlt {a : Addr} (S : St X m σ s) (h : a ∈ σ.map (·.1)) : a < s.heap.objs.size := by
  obtain ⟨⟨b, o⟩, hp, rfl⟩ := List.mem_map.mp h
  obtain ⟨ob, e⟩ := S.lt hp
  exact Heap.lt_size e
theorem St.two (S : St X m σ s) : 2 ≤ s.heap.objs.size := by
  obtain ⟨mr, hn, _⟩ := S.ns; exact Nat.le_trans S.ok.lo (Nat.le_of_lt hn.lt)
theorem St.Llt (S : St X m σ s) : X.L < s.heap.objs.size := by
  obtain ⟨mr, hn, _⟩ := S.ns; exact hn.lt
/-- the heap has grown by what nobody owns -/
theorem St.grow (S : St X m σ s) {h' : Heap} {tk : Nat} (k : ∀ b o, s.heap.get? b = some o → h'.get? b = some o) :
    St X m σ { s with heap := h', toks := tk } ∧ Step X.L σ σ s.heap h' := by
  have kt := IsTup.keepAll k
  exact ⟨⟨S.ok, ⟨fun p hp => (S.hr.own p hp).keep kt (k p.1), S.hr.nd, fun b o e => k b o (S.hr.base b o e), S.hr.apart, S.hr.lo⟩, S.ns.keep kt (k _), S.noL, S.newL, S.gens, S.os⟩,
    ⟨fun b o _ _ e => k b o e, fun b h => .inl h, S.noL⟩⟩
theorem St.push (S : St X m σ s) (o : Obj) {tk : Nat} : St X m σ { s with heap := s.heap.push o, toks := tk } ∧ Step X.L σ σ s.heap (s.heap.push o) :=
  S.grow (fun b x e => Heap.get?_push_of_some _ e)
/-- a new object of our own -/
theorem St.alloc (S : St X m σ s) {h' : Heap} {tk : Nat} {a : Addr} {ao : AO} (k : ∀ b o, s.heap.get? b = some o → h'.get? b = some o) (ha : s.heap.get? a = none) (h2 : 2 ≤ a) (r : ORel X.G h' a ao) :
    St X m ((a, ao) :: σ) { s with heap := h', toks := tk } ∧ Step X.L σ ((a, ao) :: σ) s.heap h' := by
  have kt := IsTup.keepAll k
  have na : a ∉ σ.map (·.1) := fun q => by obtain ⟨⟨b, o⟩, hp, rfl⟩ := List.mem_map.mp q; obtain ⟨ob, e⟩ := S.lt hp; rw [e] at ha; cases ha
  have nL : X.L ∉ ((a, ao) :: σ).map (·.1) := by
    obtain ⟨mr, ⟨o, es, ep, x, y⟩, z⟩ := S.ns
    simp only [List.map_cons, List.mem_cons, not_or]
    refine ⟨fun e => ?_, S.noL⟩
    rw [e, ha] at x; cases x
  refine ⟨⟨S.ok, ⟨fun p hp => ?_, ?_, fun b o e => k b o (S.hr.base b o e), fun p hp => ?_, fun p hp => (List.mem_cons.mp hp).elim (fun e => e ▸ h2) (S.hr.lo p)⟩, S.ns.keep kt (k _), nL, S.newL, S.gens, S.os⟩, ⟨fun b o _ _ e => k b o e, fun b h => ?_, nL⟩⟩
  · rcases List.mem_cons.mp hp with rfl | hp
    · exact r
    · exact (S.hr.own p hp).keep kt (k p.1)
  · simp only [List.map_cons, List.nodup_cons]; exact ⟨na, S.hr.nd⟩
  · rcases List.mem_cons.mp hp with rfl | hp
    · cases q : X.G.W0.get? a with
      | none => rfl
      | some o => have := S.hr.base _ _ q; rw [ha] at this; cases this
    · exact S.hr.apart p hp
  · simp only [List.map_cons, List.mem_cons] at h
    rcases h with rfl | h
    · exact .inr ha
    · exact .inl h
/-- one of our own objects has changed -/
theorem St.upd (S : St X m σ s) {σ' : Hp} {h' : Heap} {tk : Nat} {a : Addr} {o o' : AO} (u : UpdL a o o' σ σ') (k : ∀ b x, b ≠ a → s.heap.get? b = some x → h'.get? b = some x)
    (r : ORel X.G h' a o') : St X m σ' { s with heap := h', toks := tk } ∧ Step X.L σ σ' s.heap h' := by
  have kt := IsTup.keepBut k (fun items => (S.hr.own _ u.mem).noTup)
  have hL : X.L ≠ a := fun e => S.noL (e ▸ List.mem_map_of_mem u.mem)
  refine ⟨⟨S.ok, ⟨fun p hp => ?_, u.fst ▸ S.hr.nd, fun b x e => k b x (fun q => ?_) (S.hr.base b x e), fun p hp => ?_, fun p hp => (u.cases S.hr.nd p hp).elim (fun e => e ▸ S.hr.lo (a, o) u.mem) fun q => S.hr.lo p q.1⟩, S.ns.keep kt (fun x => k _ x hL), u.fst ▸ S.noL, S.newL, S.gens, S.os⟩,
    ⟨fun b x hb _ e => k b x (fun q => hb (q ▸ List.mem_map_of_mem u.mem)) e, fun b h => .inl (u.fst ▸ h), u.fst ▸ S.noL⟩⟩
  · rcases u.cases S.hr.nd p hp with rfl | ⟨hp, hn⟩
    · exact r
    · exact (S.hr.own p hp).keep kt (fun x => k _ x hn)
  · have := S.hr.apart _ u.mem
    rw [← q, e] at this; cases this
  · rcases u.cases S.hr.nd p hp with rfl | ⟨hp, hn⟩
    · exact S.hr.apart (a, o) u.mem
    · exact S.hr.apart p hp
/-- a local name -/
theorem St.loc (S : St X m σ s) {m' : Loc} {h' : Heap} {tk : Nat} (k : ∀ b x, b ≠ X.L → s.heap.get? b = some x → h'.get? b = some x)
    (r : NsR h' X.L X.names m') : St X m' σ { s with heap := h', toks := tk } ∧ Step X.L σ σ s.heap h' := by
  have kt := IsTup.keepBut k (fun items => S.ns.noTup)
  refine ⟨⟨S.ok, ⟨fun p hp => (S.hr.own p hp).keep kt (fun x => k _ x fun e => S.noL (e ▸ List.mem_map_of_mem hp)), S.hr.nd, fun b x e => k b x (fun q => ?_) (S.hr.base b x e), S.hr.apart, S.hr.lo⟩, r, S.noL, S.newL, S.gens, S.os⟩,
    ⟨fun b x _ hb e => k b x hb e, fun b h => .inl h, S.noL⟩⟩
  have := S.newL
  rw [← q, e] at this; cases this
/-- fewer of our own, in another order -/
noncomputable def Le (σ' σ : Hp) : Prop := ∃ t, σ.Perm (σ' ++ t)
theorem Le.refl (σ : Hp) : Le σ σ := ⟨[], by simp⟩
theorem Le.sub {σ' σ : Hp} (h : Le σ' σ) : ∀ p ∈ σ', p ∈ σ := fun p hp => by obtain ⟨t, q⟩ := h; exact q.mem_iff.mpr (List.mem_append_left _ hp)
theorem Le.nd {σ' σ : Hp} (h : Le σ' σ) (n : (σ.map (·.1)).Nodup) : (σ'.map (·.1)).Nodup := by
  obtain ⟨t, q⟩ := h
  have := (q.map (·.1)).nodup_iff.mp n
  rw [List.map_append] at this
  exact (List.nodup_append.mp this).1
theorem Le.trans {a b c : Hp} (h : Le a b) (k : Le b c) : Le a c := by
  obtain ⟨t, p⟩ := h
  obtain ⟨u, q⟩ := k
  exact ⟨t ++ u, q.trans ((p.append_right u).trans (by rw [List.append_assoc]))⟩
theorem St.le {σ' : Hp} (S : St X m σ s) (h : Le σ' σ) : St X m σ' s :=
  ⟨S.ok, ⟨fun p hp => S.hr.own p (h.sub p hp), h.nd S.hr.nd, S.hr.base, fun p hp => S.hr.apart p (h.sub p hp), fun p hp => S.hr.lo p (h.sub p hp)⟩, S.ns, fun q => S.noL (by obtain ⟨p, hp, e⟩ := List.mem_map.mp q; exact e ▸ List.mem_map_of_mem (h.sub p hp)), S.newL, S.gens, S.os⟩
theorem Step.le {L : Addr} {σ₀ σ σ' : Hp} {h h' : Heap} (P : Step L σ₀ σ h h') (l : Le σ' σ) : Step L σ₀ σ' h h' :=
  ⟨P.keep, fun b hb => P.new b (by obtain ⟨p, hp, e⟩ := List.mem_map.mp hb; exact e ▸ List.mem_map_of_mem (l.sub p hp)), fun q => P.noL (by obtain ⟨p, hp, e⟩ := List.mem_map.mp q; exact e ▸ List.mem_map_of_mem (l.sub p hp))⟩
/-- a walk that starts with fewer of our own -/
theorem Step.of_le {L : Addr} {σ₀ σ σ' : Hp} {h h' : Heap} (P : Step L σ₀ σ' h h') (l : Le σ₀ σ) : Step L σ σ' h h' :=
  ⟨fun b o hb => P.keep b o fun q => hb (by obtain ⟨p, hp, e⟩ := List.mem_map.mp q; exact e ▸ List.mem_map_of_mem (l.sub p hp)), fun b hb => (P.new b hb).imp (fun q => by obtain ⟨p, hp, e⟩ := List.mem_map.mp q; exact e ▸ List.mem_map_of_mem (l.sub p hp)) id, P.noL⟩
end
section
variable {X : Fx} {m : Loc} {σ σ₁ : Hp} {EQ : Addr → Loc → Hp → Prop}
theorem EP.of_le {s : Shared} {e : Value} {s' : Shared} (h : EP X σ₁ EQ s e s') (l : Le σ₁ σ) : EP X σ EQ s e s' := by
  obtain ⟨x, m', σ', a, b, c, d⟩ := h
  exact ⟨x, m', σ', a, b, c.of_le l, d⟩
theorem Ev.drop {t : Sem Value} {Q : AV → Hp → Prop} (l : Le σ₁ σ) (h : Ev X t m σ₁ EQ Q) : Ev X t m σ EQ Q := fun s S =>
  wpAny_mono (h s (S.le l)) (fun v s' ⟨a, σ', h1, h2, h3, h4⟩ => ⟨a, σ', h1, h2, h3.of_le l, h4⟩) fun _ _ e => e.of_le l
theorem Xs.drop {t : Sem Flow} {Q : AF → Loc → Hp → Prop} (l : Le σ₁ σ) (h : Xs X t m σ₁ EQ Q) : Xs X t m σ EQ Q := fun s S =>
  wpAny_mono (h s (S.le l)) (fun v s' ⟨a, m', σ', h1, h2, h3, h4⟩ => ⟨a, m', σ', h1, h2, h3.of_le l, h4⟩) fun _ _ e => e.of_le l
theorem Ev.mono {t : Sem Value} {Q Q' : AV → Hp → Prop} (h : Ev X t m σ EQ Q) (k : ∀ a σ', Q a σ' → Q' a σ') : Ev X t m σ EQ Q' := fun s S =>
  wpAny_mono (h s S) (fun v s' ⟨a, σ', h1, h2, h3, h4⟩ => ⟨a, σ', h1, h2, h3, k _ _ h4⟩) fun _ _ e => e
theorem Xs.mono {t : Sem Flow} {Q Q' : AF → Loc → Hp → Prop} (h : Xs X t m σ EQ Q) (k : ∀ a m' σ', Q a m' σ' → Q' a m' σ') : Xs X t m σ EQ Q' := fun s S =>
  wpAny_mono (h s S) (fun v s' ⟨a, m', σ', h1, h2, h3, h4⟩ => ⟨a, m', σ', h1, h2, h3, k _ _ _ h4⟩) fun _ _ e => e
/-- at an end: fewer of our own -/
theorem Xs.weak {t : Sem Flow} {Q : AF → Loc → Hp → Prop} (h : Xs X t m σ EQ fun a m' σ' => ∃ σ'', Le σ'' σ' ∧ Q a m' σ'') : Xs X t m σ EQ Q := fun s S =>
  wpAny_mono (h s S) (fun v s' ⟨a, m', σ', h1, h2, h3, σ'', l, h4⟩ => ⟨a, m', σ'', h1, h2.le l, h3.le l, h4⟩) fun _ _ e => e
theorem Ev.weak {t : Sem Value} {Q : AV → Hp → Prop} (h : Ev X t m σ EQ fun a σ' => ∃ σ'', Le σ'' σ' ∧ Q a σ'') : Ev X t m σ EQ Q := fun s S =>
  wpAny_mono (h s S) (fun v s' ⟨a, σ', h1, h2, h3, σ'', l, h4⟩ => ⟨a, σ'', h1, h2.le l, h3.le l, h4⟩) fun _ _ e => e
end
open PySem PySem.W PySem.Calls PyProof.Rows PySem.SeqAt
section
variable {X : Fx} {m : Loc} {σ : Hp} {EQ : Addr → Loc → Hp → Prop} {Q : AV → Hp → Prop}
/-! ends of a step -/
theorem doneH {v : Value} {s s' : Shared} {a : AV} {Q : AV → Hp → Prop} {σ' : Hp} (S : St X m σ' s' ∧ Step X.L σ σ' s.heap s'.heap) (h : VR s'.heap a v) (q : Q a σ') :
    ∃ a σ', VR s'.heap a v ∧ St X m σ' s' ∧ Step X.L σ σ' s.heap s'.heap ∧ Q a σ' := ⟨a, σ', h, S.1, S.2, q⟩
theorem St.units {s : Shared} (S : St X m σ s) : X.A.units + 5 * X.n < cLine := S.ok.room.2.1
theorem St.handled {s : Shared} (S : St X m σ s) : X.A.handled = none := S.ok.room.2.2
/-! comparisons -/
theorem Op2.gt {a b : Int} (q : Q (.bool (decide (b < a))) σ) : Op2 X m σ EQ (compareOp .Gt) (.int a) (.int b) Q := by
  intro _ _ s S r₁ r₂; obtain ⟨t, rfl⟩ := r₁.intE; obtain ⟨u, rfl⟩ := r₂.intE; exact PyProof.Rows.gt_int (done S .boolI q)
theorem Op2.ge {a b : Int} (q : Q (.bool (decide (b ≤ a))) σ) : Op2 X m σ EQ (compareOp .GtE) (.int a) (.int b) Q := by
  intro _ _ s S r₁ r₂; obtain ⟨t, rfl⟩ := r₁.intE; obtain ⟨u, rfl⟩ := r₂.intE; exact PyProof.Rows.ge_int (done S .boolI q)
theorem Op2.nei {a b : Int} (q : Q (.bool (a != b)) σ) : Op2 X m σ EQ (compareOp .NotEq) (.int a) (.int b) Q := by
  intro _ _ s S r₁ r₂; obtain ⟨t, rfl⟩ := r₁.intE; obtain ⟨u, rfl⟩ := r₂.intE; exact PyProof.Rows.ne_int (done S .boolI q)
theorem Op2.eqs {a b : Str} (q : Q (.bool (a == b)) σ) : Op2 X m σ EQ (compareOp .Eq) (.str a) (.str b) Q := by
  intro _ _ s S r₁ r₂; obtain ⟨t, rfl⟩ := r₁.strE; obtain ⟨u, rfl⟩ := r₂.strE; exact PyProof.Rows.eq_str (done S .boolI q)
theorem Op2.nes {a b : Str} (q : Q (.bool (a != b)) σ) : Op2 X m σ EQ (compareOp .NotEq) (.str a) (.str b) Q := by
  intro _ _ s S r₁ r₂; obtain ⟨t, rfl⟩ := r₁.strE; obtain ⟨u, rfl⟩ := r₂.strE; exact PyProof.Rows.ne_str (done S .boolI q)
noncomputable def AV.isNone : AV → Bool
  | .none => true
  | _ => false
noncomputable def AV.known : AV → Bool
  | .oth _ => false
  | _ => true
theorem vr_none {h : Heap} {a : AV} {v : Value} (r : VR h a v) (k : a.known = true) : (v == Value.none) = a.isNone := by
  cases a with
  | none => obtain rfl := r.noneE; rfl
  | bool => obtain rfl := r.boolE; rfl
  | int => obtain ⟨_, rfl⟩ := r.intE; rfl
  | str => obtain ⟨_, rfl⟩ := r.strE; rfl
  | tup => obtain ⟨_, _, rfl, _⟩ := r.tupE; rfl
  | ref => obtain rfl := r.refE; rfl
  | oth => simp [AV.known] at k
theorem Op2.isNone {a : AV} (k : a.known = true) (q : Q (.bool a.isNone) σ) : Op2 X m σ EQ (compareOp .Is) a .none Q := by
  intro _ _ s S r₁ r₂; obtain rfl := r₂.noneE
  exact PyProof.Rows.is_none_gen (vr_none r₁ k ▸ done S .boolI q)
theorem Op2.isNotNone {a : AV} (k : a.known = true) (q : Q (.bool (!a.isNone)) σ) : Op2 X m σ EQ (compareOp .IsNot) a .none Q := by
  intro _ _ s S r₁ r₂; obtain rfl := r₂.noneE
  exact PyProof.Rows.isnot_none_gen (vr_none r₁ k ▸ done S .boolI q)
theorem eqv_tup {l r : List AV} : (AV.tup l).eqv (.tup r) = eqvs l r := by simp only [AV.eqv]
theorem rcTup {A : Around} {s : Shared} {n k : Nat} {l r : List AV} {a b : Addr} {is js : List Value} (hl : pls n l = true) (hr : pls k r = true) (hu : A.units + n + 1 < cLine)
    (t : IsTup s.heap a is.toArray) (t' : IsTup s.heap b js.toArray) (z : VRs s.heap l is) (z' : VRs s.heap r js) : RcAt A s (.ref a) (.ref b) (eqvs l r) := by
  have := RcAt.tuples (A := A) t t' (by omega) (e := eqIx l r) fun j h1 h2 => by
    have g1 : j < l.length := by simpa [z.length] using h1
    have g2 : j < r.length := by simpa [z'.length] using h2
    rw [eqIx_of g1 g2]
    have := eqAts (A := A.in1) (s := s) hl hr (by show A.units + 1 + n < cLine; omega) z z' j g1 g2
    simpa using this
  simpa [eqvs_all, z.length, z'.length] using this
theorem Op2.eqT {l r : List AV} {n k : Nat} (hl : pls n l = true) (hr : pls k r = true) (hn : n + 1 ≤ 5 * X.n) (q : Q (.bool (eqvs l r)) σ) : Op2 X m σ EQ (compareOp .Eq) (.tup l) (.tup r) Q := by
  intro _ _ s S r₁ r₂
  obtain ⟨a, is, rfl, t, z⟩ := r₁.tupE
  obtain ⟨b, js, rfl, t', z'⟩ := r₂.tupE
  have := S.units
  exact rcTup hl hr (by omega) t t' z z' X.G.prog X.G.w _ _ (done S .boolI q)
theorem eqvs_false_len {l r : List AV} (h : l.length ≠ r.length) : eqvs l r = false := by
  cases q : eqvs l r with
  | false => rfl
  | true => exact absurd (eqvs_len q) h
theorem eqvs_same_len {l r : List AV} (h : l.length = r.length) : eqvs l r = (List.range l.length).all (eqIx l r) := by
  rw [eqvs_all, h]; simp
theorem Op2.eqL {x y : Addr} {l r : List AV} {n k : Nat} (hx : (x, .list l) ∈ σ) (hy : (y, .list r) ∈ σ) (hl : pls n l = true) (hr : pls k r = true) (hn : n + 1 ≤ 5 * X.n) (q : Q (.bool (eqvs l r)) σ) :
    Op2 X m σ EQ (compareOp .Eq) (.ref x) (.ref y) Q := by
  intro _ _ s S r₁ r₂
  obtain rfl := r₁.refE; obtain rfl := r₂.refE
  obtain ⟨is, ni, hi, z⟩ := S.hr.own _ hx
  obtain ⟨js, nj, hj, z'⟩ := S.hr.own _ hy
  have hu := S.units
  have h1 : s.heap.IsList x is.toArray := ⟨_, hi, rfl, _, rfl⟩
  have h2 : s.heap.IsList y js.toArray := ⟨_, hj, rfl, _, rfl⟩
  by_cases hlen : l.length = r.length
  · refine RcAt.lists (A := X.A) h1 h2 (by simp [z.length, z'.length, hlen]) (by omega) (e := eqIx l r) (fun j g1 g2 => ?_) X.G.prog X.G.w _ _ ?_
    · have g1' : j < l.length := by simpa [z.length] using g1
      have g2' : j < r.length := by simpa [z'.length] using g2
      rw [eqIx_of g1' g2']
      simpa using eqAts (A := X.A.in1) (s := s) hl hr (by show X.A.units + 1 + n < cLine; omega) z z' j g1' g2'
    · rw [show is.toArray.size = l.length by simp [z.length], ← eqvs_same_len hlen]
      exact done S .boolI q
  · refine RcAt.lists_lengths (A := X.A) h1 h2 (by simp [z.length, z'.length, hlen]) (by omega) X.G.prog X.G.w _ _ ?_
    rw [eqvs_false_len hlen] at q
    exact done S .boolI q
theorem Op2.neL {x y : Addr} {l r : List AV} {n k : Nat} (hx : (x, .list l) ∈ σ) (hy : (y, .list r) ∈ σ) (hl : pls n l = true) (hr : pls k r = true) (hn : n + 1 ≤ 5 * X.n) (q : Q (.bool (!eqvs l r)) σ) :
    Op2 X m σ EQ (compareOp .NotEq) (.ref x) (.ref y) Q := by
  intro _ _ s S r₁ r₂
  obtain rfl := r₁.refE; obtain rfl := r₂.refE
  obtain ⟨is, ni, hi, z⟩ := S.hr.own _ hx
  obtain ⟨js, nj, hj, z'⟩ := S.hr.own _ hy
  have hu := S.units
  have h1 : s.heap.IsList x is.toArray := ⟨_, hi, rfl, _, rfl⟩
  have h2 : s.heap.IsList y js.toArray := ⟨_, hj, rfl, _, rfl⟩
  by_cases hlen : l.length = r.length
  · refine RcNeAt.lists (A := X.A) h1 h2 (by simp [z.length, z'.length, hlen]) (by omega) (e := eqIx l r) (fun j g1 g2 => ?_) X.G.prog X.G.w _ _ ?_
    · have g1' : j < l.length := by simpa [z.length] using g1
      have g2' : j < r.length := by simpa [z'.length] using g2
      rw [eqIx_of g1' g2']
      simpa using eqAts (A := X.A.in1) (s := s) hl hr (by show X.A.units + 1 + n < cLine; omega) z z' j g1' g2'
    · rw [show is.toArray.size = l.length by simp [z.length], ← eqvs_same_len hlen]
      exact done S .boolI q
  · refine RcNeAt.lists_lengths (A := X.A) h1 h2 (by simp [z.length, z'.length, hlen]) (by omega) X.G.prog X.G.w _ _ ?_
    rw [eqvs_false_len hlen] at q
    exact done S .boolI q
open Classical in
theorem Op2.inTup {k : AV} {l : List AV} {n n' : Nat} (hk : k.pl n' = true) (hl : pls n l = true) (hn : n + 1 ≤ 5 * X.n) (q : Q (.bool (l.any fun y => y.eqv k)) σ) : Op2 X m σ EQ (compareOp .In) k (.tup l) Q := by
  intro v _ s S r₁ r₂
  obtain ⟨a, is, rfl, t, z⟩ := r₂.tupE
  have hu := S.units
  let e : Value → Bool := fun y => decide (∃ b ∈ l, VR s.heap b y ∧ b.eqv k = true)
  have hmem : ∀ y ∈ is, ∃ b ∈ l, VR s.heap b y := fun y hy => by
    obtain ⟨i, hi, rfl⟩ := List.mem_iff_getElem.mp hy
    obtain ⟨b, hb, r⟩ := z.get' (List.getElem?_eq_getElem hi)
    exact ⟨b, List.mem_of_getElem? hb, r⟩
  have pl_of : ∀ b ∈ l, b.pl n = true := fun b hb => by
    obtain ⟨i, hi, rfl⟩ := List.mem_iff_getElem.mp hb
    exact pls_get hl hi
  have he : ∀ y ∈ is, ∀ b ∈ l, VR s.heap b y → e y = b.eqv k := fun y hy b hb r => by
    cases hq : b.eqv k with
    | true => exact decide_eq_true ⟨b, hb, r, hq⟩
    | false =>
      refine decide_eq_false ?_
      rintro ⟨b', hb', r', h'⟩
      have := (eqv_iff n n b b' (pl_of b hb) (pl_of b' hb')).mp (vr_fun (pl_of b hb) (pl_of b' hb') r r')
      rw [this, h'] at hq; cases hq
  have hany : is.toArray.any e = l.any fun y => y.eqv k := by
    rw [List.any_toArray, Bool.eq_iff_iff, List.any_eq_true, List.any_eq_true]
    constructor
    · rintro ⟨y, hy, h⟩
      obtain ⟨b, hb, r⟩ := hmem y hy
      exact ⟨b, hb, he y hy b hb r ▸ h⟩
    · rintro ⟨b, hb, h⟩
      obtain ⟨i, hi, rfl⟩ := List.mem_iff_getElem.mp hb
      obtain ⟨y, hy, r⟩ := z.get (List.getElem?_eq_getElem hi)
      have hy' := List.mem_of_getElem? hy
      exact ⟨y, hy', (he y hy' _ hb r).symm ▸ h⟩
  refine in_tupleAt (A := X.A) e t (fun y hy => ?_) (hany ▸ done S .boolI q)
  have hy' : y ∈ is := by simpa using hy
  obtain ⟨b, hb, r⟩ := hmem y hy'
  rw [he y hy' b hb r]
  exact eqAt (pl_of b hb) hk (by show X.A.units + 1 + n < cLine; omega) r r₁
theorem Op2.inStr {x y : Str} (q : Q (.bool (Txt.contains x y)) σ) : Op2 X m σ EQ (compareOp .In) (.str y) (.str x) Q := by
  intro _ _ s S r₁ r₂; obtain ⟨t, rfl⟩ := r₁.strE; obtain ⟨u, rfl⟩ := r₂.strE; exact SB.contains (done S .boolI q)
/-! items -/
noncomputable def plainSlice : Expr → Bool
  | .Slice .. => false
  | _ => true
theorem subscripted_plain {slice : Expr} (h : plainSlice slice = true) (o i : Value) : subscripted slice false o i = operate [o, i] (getItem o i) := by
  cases slice <;> first | rfl | simp [plainSlice] at h
theorem Ev.sub {value slice pos} (h : Ev X (eval value X.env) m σ EQ fun a σ₁ => Ev X (eval slice X.env) m σ₁ EQ fun b σ₂ => Op2 X m σ₂ EQ (subscriptTail value slice) a b Q) :
    Ev X (eval (.Subscript value slice pos) X.env) m σ EQ Q := by
  intro s S
  refine Subscript_ (ev_then (h s S) (fun v s₁ a σ₁ r₁ S₁ P₁ h₁ => ?_) fun _ _ e => e)
  refine ev_then (h₁ s₁ S₁) (fun w s₂ b σ₂ r₂ S₂ P₂ h₂ => ?_) fun _ _ e => e.trans P₁
  exact ev_from (P₁.trans P₂) (h₂ v w s₂ S₂ (S₁.vr P₂ r₁) r₂)
theorem Op2.itTup {value slice : Expr} {l : List AV} {i : Int} {j : Nat} {x : AV} (hs : plainSlice slice = true) (hlo : -(2 ^ 63) ≤ i) (hhi : i < 2 ^ 63) (hj : seqIndex? i l.length = some j) (hx : l[j]? = some x) (q : Q x σ) :
    Op2 X m σ EQ (subscriptTail value slice) (.tup l) (.int i) Q := by
  intro _ _ s S r₁ r₂
  obtain ⟨a, is, rfl, t, z⟩ := r₁.tupE
  obtain ⟨u, rfl⟩ := r₂.intE
  obtain ⟨y, hy, r⟩ := z.get hx
  exact item_tupleT (A := X.A) t hlo hhi (by rw [z.length]; exact hj) hy (done S r q) (subscripted_plain hs _ _)
/-- a list of our own -/
theorem Op2.itList {value slice : Expr} {x : Addr} {l : List AV} {i : Int} {y : AV} (hs : plainSlice slice = true) (hm : (x, .list l) ∈ σ) (h0 : 0 ≤ i) (hhi : i < 2 ^ 63) (hx : l[i.toNat]? = some y) (q : Q y σ) :
    Op2 X m σ EQ (subscriptTail value slice) (.ref x) (.int i) Q := by
  intro _ _ s S r₁ r₂
  obtain rfl := r₁.refE
  obtain ⟨u, rfl⟩ := r₂.intE
  obtain ⟨is, ni, hi, z⟩ := S.hr.own _ hm
  obtain ⟨v, hv, r⟩ := z.get hx
  have hL : s.heap.IsList x is.toArray := ⟨_, hi, rfl, _, rfl⟩
  exact tail_any (A := X.A) hL.typeIs slot_list_getitem.lookup (wpAny_getItem_list hL h0 hhi (by simpa using hv) (done S r q)) (subscripted_plain hs _ _)
theorem Op2.itStr {value slice : Expr} {x : Str} {i : Int} {c : Nat} (hs : plainSlice slice = true) (hlo : -(2 ^ 63) ≤ i) (hhi : i < 2 ^ 63) (hc : (seqIndex? i x.length).bind (x.cps[·]?) = some c) (q : Q (.str ⟨#[c]⟩) σ) :
    Op2 X m σ EQ (subscriptTail value slice) (.str x) (.int i) Q := by
  intro _ _ s S r₁ r₂
  obtain ⟨t, rfl⟩ := r₁.strE
  obtain ⟨u, rfl⟩ := r₂.intE
  exact tail_any (A := X.A) (typeIs_str s x t) slot_str_getitem.lookup (PyProof.Rows.getItem_str (by simp; omega) hc (doneT S .strI q)) (subscripted_plain hs _ _)
/-! displays -/
theorem newTupleAt {s : Shared} {l : List AV} {vs : List Value} (S : St X m σ s) (z : VRs s.heap l vs) (hsz : l.length ≤ sizeLine) (q : Q (.tup l) σ) : EvAt X (newTuple vs) m σ EQ Q s := by
  refine wpAny_newObj_type ?_ (by show vs.toArray.size ≤ sizeLine; rw [List.size_toArray, z.length]; exact hsz)
  have P := S.push { cls := .type "tuple", data := .seq vs.toArray } (tk := s.toks)
  exact doneH P (.tupI (IsTup.new ..) (S.vrs P.2 z)) q
theorem newListAt {s : Shared} {l : List AV} {vs : List Value} (S : St X m σ s) (z : VRs s.heap l vs) (hsz : l.length ≤ sizeLine) (q : ∀ x, x ∉ σ.map (·.1) → Q (.ref x) ((x, .list l) :: σ)) : EvAt X (newList vs) m σ EQ Q s := by
  refine wpAny_newObj_type ?_ (by show vs.toArray.size ≤ sizeLine; rw [List.size_toArray, z.length]; exact hsz)
  have k : ∀ b o, s.heap.get? b = some o → (s.heap.push { cls := .type "list", data := .seq vs.toArray }).get? b = some o := fun b o e => Heap.get?_push_of_some _ e
  have P := S.alloc (tk := s.toks) (a := s.heap.objs.size) (ao := .list l) k (Heap.get?_none_of_le (Nat.le_refl _)) S.two
    ⟨vs, 0, Heap.get?_push_size _ rfl, z.keep (IsTup.keepAll k)⟩
  exact doneH P .refI (q _ fun h => absurd (S.memlt h) (Nat.lt_irrefl _))
theorem Evs.nil {Q : List AV → Hp → Prop} (q : Q [] σ) : Evs X (spliced []) m σ EQ Q := fun s S => Calls.spliced_nil ⟨[], σ, .nil, S, .refl S.noL _, q⟩
theorem Evs.cons {x : Sem Value} {rest : List (Bool × Sem Value)} {Q : List AV → Hp → Prop} (h : Ev X x m σ EQ fun a σ₁ => Evs X (spliced rest) m σ₁ EQ fun l σ₂ => Q (a :: l) σ₂) : Evs X (spliced ((false, x) :: rest)) m σ EQ Q := by
  intro s S
  refine Calls.spliced_cons (ev_then (h s S) (fun v s₁ a σ₁ r₁ S₁ P₁ h₁ => ?_) fun _ _ e => e)
  refine evs_then (h₁ s₁ S₁) (fun w s₂ b σ₂ r₂ S₂ P₂ h₂ => ?_) fun _ _ e => e.trans P₁
  exact ⟨_, _, .cons (S₁.vr P₂ r₁) r₂, S₂, P₁.trans P₂, h₂⟩
/-- the parts of a display or of a call, one after the other -/
noncomputable def EvL (X : Fx) (es : List Expr) (m : Loc) (σ : Hp) (EQ : Addr → Loc → Hp → Prop) (Q : List AV → Hp → Prop) : Prop := match es with
  | [] => Q [] σ
  | e :: r => Ev X (eval e X.env) m σ EQ fun a σ₁ => EvL X r m σ₁ EQ fun l σ₂ => Q (a :: l) σ₂
noncomputable def noStar : List Expr → Bool
  | [] => true
  | .Starred .. :: _ => false
  | _ :: r => noStar r
theorem starEach_plain {env : Env} : ∀ {es : List Expr}, noStar es = true → starEach es env = es.map fun e => (false, eval e env)
  | [], _ => rfl
  | e :: r, h => by
    have hr : noStar r = true := by cases e <;> first | exact h | simp [noStar] at h
    have := starEach_plain (env := env) hr
    cases e <;> first | (show _ :: starEach r env = _; rw [this]; rfl) | simp [noStar] at h
theorem backTo_plain {env : Env} {pos : Pos} {es : List Expr} (h : noStar es = true) : backTo pos (starEach es env) = es.map fun e => (false, eval e env) := by
  rw [starEach_plain h]
  simp only [backTo, List.map_map]
  rfl
theorem Evs.of {es : List Expr} {Q : List AV → Hp → Prop} : ∀ {σ : Hp}, EvL X es m σ EQ Q → Evs X (spliced (es.map fun e => (false, eval e X.env))) m σ EQ Q := by
  induction es generalizing Q with
  | nil => exact fun h => .nil h
  | cons e r ih => exact fun h => .cons fun s S => wpAny_mono (h s S) (fun v s' ⟨a, σ', h1, h2, h3, h4⟩ => ⟨a, σ', h1, h2, h3, ih h4⟩) fun _ _ e => e
theorem Ev.tuple {es : List Expr} {k : Nat} {pos : Pos} (hs : noStar es = true) (hz : es.length ≤ 100) (h : EvL X es m σ EQ fun l σ₁ => Q (.tup l) σ₁) : Ev X (eval (.Tuple es k pos) X.env) m σ EQ Q := by
  intro s S
  refine Tuple_ ?_
  rw [backTo_plain hs]
  have h' : Evs X (spliced (es.map fun e => (false, eval e X.env))) m σ EQ fun l σ₁ => l.length = es.length ∧ Q (.tup l) σ₁ := by
    clear hs hz
    have gen : ∀ (es : List Expr) (σ : Hp) (P : List AV → Hp → Prop), EvL X es m σ EQ P → EvL X es m σ EQ fun l σ₁ => l.length = es.length ∧ P l σ₁ := by
      intro es
      induction es with
      | nil => exact fun σ P h => ⟨rfl, h⟩
      | cons e r ih =>
        intro σ P h
        refine Ev.mono h fun a σ' h' => ?_
        have := ih σ' _ h'
        have mono : ∀ (r : List Expr) (σ : Hp) (P P' : List AV → Hp → Prop), (∀ l σ, P l σ → P' l σ) → EvL X r m σ EQ P → EvL X r m σ EQ P' := by
          intro r
          induction r with
          | nil => exact fun σ P P' k h => k _ _ h
          | cons e r ih => exact fun σ P P' k h => Ev.mono h fun a σ' h' => ih σ' _ _ (fun l σ q => k _ _ q) h'
        exact mono r σ' _ _ (fun l σ q => ⟨by simp [q.1], q.2⟩) this
    exact .of (gen _ _ _ h)
  refine evs_then (h' s S) (fun vs s₁ l σ₁ r₁ S₁ P₁ h₁ => ?_) fun _ _ e => e
  exact ev_from P₁ (newTupleAt S₁ r₁ (by rw [h₁.1, sizeLine_eq]; omega) h₁.2)
theorem EvL.mono {es : List Expr} : ∀ {σ : Hp} {P P' : List AV → Hp → Prop}, (∀ l σ, l.length = es.length → P l σ → P' l σ) → EvL X es m σ EQ P → EvL X es m σ EQ P' := by
  induction es with
  | nil => exact fun k h => k _ _ rfl h
  | cons e r ih => exact fun k h => Ev.mono h fun a σ' h' => ih (fun l σ e q => k _ _ (by simp [e]) q) h'
theorem Ev.list {es : List Expr} {pos : Pos} (hs : noStar es = true) (hz : es.length ≤ 100) (h : EvL X es m σ EQ fun l σ₁ => ∀ x, x ∉ σ₁.map (·.1) → Q (.ref x) ((x, .list l) :: σ₁)) : Ev X (eval (.List es pos) X.env) m σ EQ Q := by
  intro s S
  refine List_ ?_
  rw [backTo_plain hs]
  have h' := Evs.of (EvL.mono (P' := fun l σ₁ => l.length = es.length ∧ ∀ x, x ∉ σ₁.map (·.1) → Q (.ref x) ((x, .list l) :: σ₁)) (fun l σ e q => ⟨e, q⟩) h)
  refine evs_then (h' s S) (fun vs s₁ l σ₁ r₁ S₁ P₁ h₁ => ?_) fun _ _ e => e
  exact ev_from P₁ (newListAt S₁ r₁ (by rw [h₁.1, sizeLine_eq]; omega) h₁.2)
end
open PySem PySem.W PySem.Calls PyProof.Rows PySem.SeqAt
/-- the class C has nothing of that name, and reads and stores it plainly -/
structure AtC (K : Frag) (C : Addr) (x : Str) : Prop where
  get : plainGet K C x = true
  dict : hasDictIn K C = true
  fnd : findIn K (.ref C) x = some none
/-- the class stores plainly -/
structure StC (K : Frag) (C : Addr) : Prop where
  set : findIn K (.ref C) "__setattr__" = some (some (.builtin "object.__setattr__"))
  over : plainOver K C = true
structure MtC (K : Frag) (C : Addr) (x : Str) (f : Addr) : Prop where
  get : plainGet K C x = true
  fnd : findIn K (.ref C) x = some (some (.ref f))
  fn : isFn K (.ref f) = true
theorem lookIn_ns {o : Obj} {es : Array DictEntry} {ep : Nat} (hd : o.data = .dict es ep) (hk : StrKeys es) (x : Str) : lookIn x o = some (nsFind es x) := by
  unfold lookIn
  rw [hd]
  dsimp only
  unfold nsFind findBy
  rw [← Array.find?_toList]
  cases h : List.find? (fun e => e.key.isStr x) es.toList with
  | some e => rfl
  | none =>
    have : es.toList.any (·.refKey) = false := by
      rw [List.any_eq_false]; intro e he; obtain ⟨n, t, h⟩ := hk e (by simpa using he); simp [DictEntry.refKey, h]
    rw [this]; rfl
theorem handed_known {h : Heap} {a : AV} {v : Value} (r : VR h a v) (k : a.known = true) : handedIn v = true := by
  cases a with
  | none => obtain rfl := r.noneE; rfl
  | bool => obtain rfl := r.boolE; rfl
  | int => obtain ⟨_, rfl⟩ := r.intE; rfl
  | str => obtain ⟨_, rfl⟩ := r.strE; rfl
  | tup => obtain ⟨_, _, rfl, _⟩ := r.tupE; rfl
  | ref => obtain rfl := r.refE; rfl
  | oth => simp [AV.known] at k
section
variable {X : Fx} {m : Loc} {σ : Hp} {EQ : Addr → Loc → Hp → Prop} {Q : AV → Hp → Prop}
noncomputable def Op1 (X : Fx) (m : Loc) (σ : Hp) (EQ : Addr → Loc → Hp → Prop) (f : Value → Sem Value) (a : AV) (Q : AV → Hp → Prop) : Prop :=
  ∀ v s, St X m σ s → VR s.heap a v → EvAt X (f v) m σ EQ Q s
theorem St.inst {s : Shared} {x C dx : Addr} {names : List Str} {vals : List (Option AV)} (S : St X m σ s) (hx : (x, .inst C dx) ∈ σ) (hd : (dx, .ns names vals) ∈ σ) :
    ∃ o es ep, InstAt s.heap x (instObj C dx) C (some o) ∧ s.heap.get? dx = some o ∧ o.data = .dict es ep ∧ StrKeys es ∧ (∀ y, OVR s.heap (getN names vals y) (nsFind es y)) ∧ es.size ≤ vals.countP (·.isSome) := by
  have h1 : s.heap.get? x = some (instObj C dx) := S.hr.own _ hx
  obtain ⟨o, es, ep, h2, h3, h4, h5, h6⟩ := S.hr.own _ hd
  exact ⟨o, es, ep, ⟨h1, rfl, rfl, h2⟩, h2, h3, h4, h5, h6⟩
theorem Ev.attr {value : Expr} {attr : Str} {pos : Pos} (h : Ev X (eval value X.env) m σ EQ fun r σ₁ => Op1 X m σ₁ EQ (fun v => getAttr v attr true) r Q)
    (he : eval (.Attribute value attr pos) X.env = (do
      let o ← eval value X.env
      standAt pos.atName
      let r ← holding [o] (getAttr o attr true)
      letTemporaryGo value o r
      pure r)) : Ev X (eval (.Attribute value attr pos) X.env) m σ EQ Q := by
  intro s S
  refine Attribute_any_ (ev_then (h s S) (fun v s₁ a σ₁ r₁ S₁ P₁ h₁ => ?_) fun _ _ e => e) he
  exact ev_from P₁ (h₁ v s₁ S₁ r₁)
theorem Op1.get {x C dx : Addr} {attr : Str} {names : List Str} {vals : List (Option AV)} {i : Nat} {a : AV} (hx : (x, .inst C dx) ∈ σ) (hd : (dx, .ns names vals) ∈ σ) (c : AtC X.G.K C attr)
    (n : NIx names attr i) (g : GetAt vals i a) (k : a.known = true) (q : Q a σ) : Op1 X m σ EQ (fun v => getAttr v attr true) (.ref x) Q := by
  intro v s S r
  obtain rfl := r.refE
  obtain ⟨o, es, ep, I, h2, h3, h4, h5, h6⟩ := S.inst hx hd
  have hf := h5 attr
  rw [getN_get n g] at hf
  obtain ⟨w, hw, rw⟩ := hf
  exact get_value S.kin I (plainGet_of c.get).1 (findObj_own (od := o) c.dict c.fnd rfl (by rw [lookIn_ns h3 h4, hw])) (handed_known rw k) (doneT S rw q)
/-- a method, found -/
theorem method_own {x C dx f : Addr} {name : Str} {names : List Str} {vals : List (Option AV)} {s : Shared} {pl : Sem Bool} {R : Value × List Value → Shared → Prop} {E : Value → Shared → Prop} (S : St X m σ s) (hx : (x, .inst C dx) ∈ σ) (hd : (dx, .ns names vals) ∈ σ) (c : MtC X.G.K C name f)
    (n : names.findIdx? (· == name) = none) (q : R (.ref f, [.ref x]) s) : wpAny X.M X.A (getMethod (.ref x) name pl) R E s := by
  obtain ⟨o, es, ep, I, h2, h3, h4, h5, h6⟩ := S.inst hx hd
  have hf := h5 name
  unfold getN at hf
  rw [n] at hf
  have hf : nsFind es name = none := hf
  exact method_fn S.kin I (plainGet_of c.get).1 (plainGet_of c.get).2 c.fnd (beq_iff_eq.mp c.fn) (by show (lookIn name o).map _ = _; rw [lookIn_ns h3 h4, hf]; rfl) q
/-! statements -/
variable {QS : AF → Loc → Hp → Prop}
theorem Xs.nil (q : QS .next m σ) : Xs X (execs [] X.env) m σ EQ QS := fun s S => wpAny_execs_nil ⟨.next, m, σ, rfl, S, .refl S.noL _, q⟩
noncomputable def thenX (X : Fx) (rest : List Stmt) (EQ : Addr → Loc → Hp → Prop) (QS : AF → Loc → Hp → Prop) : AF → Loc → Hp → Prop
  | .next, m, σ => Xs X (execs rest X.env) m σ EQ QS
  | f, m, σ => QS f m σ
theorem Xs.cons {st : Stmt} {rest : List Stmt} (h : Xs X (exec st X.env) m σ EQ (thenX X rest EQ QS)) : Xs X (execs (st :: rest) X.env) m σ EQ QS := by
  intro s S
  refine wpAny_execs_cons (xs_then (h s S) (fun f s₁ g m₁ σ₁ r₁ S₁ P₁ h₁ => ?_) fun _ _ e => e)
  cases g with
  | next => obtain rfl := r₁; exact xs_from P₁ (h₁ s₁ S₁)
  | brk => obtain rfl := r₁; exact ⟨.brk, _, _, rfl, S₁, P₁, h₁⟩
  | cont => obtain rfl := r₁; exact ⟨.cont, _, _, rfl, S₁, P₁, h₁⟩
  | ret a => obtain ⟨v, rfl, r⟩ := r₁; exact ⟨.ret a, _, _, ⟨v, rfl, r⟩, S₁, P₁, h₁⟩
noncomputable def noComp : Expr → Bool
  | .ListComp .. | .SetComp .. | .DictComp .. => false
  | _ => true
theorem swaps_no {value : Expr} {t : Option Expr} {line : Nat} {env : Env} (h : noComp value = true) : swapsWith value t line env = pure false := by
  cases value <;> first | rfl | simp [noComp] at h
theorem store_local {x : Str} {i : Nat} {v : Value} {a : AV} {m' : Loc} {s : Shared} {R : Unit → Shared → Prop} {E : Value → Shared → Prop} (S : St X m σ s) (l : Lc X.fd x i) (g : SetAt m i a m') (r : VR s.heap a v)
    (q : ∀ s', St X m' σ s' → Step X.L σ σ s.heap s'.heap → R () s') : wpAny X.M X.A (storeName X.env x v) R E s := by
  obtain ⟨mr, hn, hm⟩ := S.ns
  refine wpAny_storeName_local l.kind hn (fun h' hn' hs => ?_) (by show (X.fd.scope.kind == .class || (X.fd.scope.kind == .module && X.L != X.fd.globals)) = false; rw [S.ok.kind]; rfl)
  have keep : ∀ b x, b ≠ X.L → s.heap.get? b = some x → h'.get? b = some x := fun b x hb e => (hs.2 b hb).trans e
  have kt := IsTup.keepBut keep (fun items => S.ns.noTup)
  have P := S.loc (tk := s.toks + 1) (m' := m') keep ⟨_, hn', fun y => by
    rw [show getN X.names m' y = _ from getN_set l.ix g y]
    by_cases e : y = x
    · rw [if_pos e, if_pos e]; exact ⟨v, rfl, r.keep kt⟩
    · rw [if_neg e, if_neg e]; exact (hm y).keep kt⟩
  exact q _ P.1 P.2
theorem Xs.assign {x : Str} {i : Nat} {value : Expr} {pos' pos : Pos} (l : Lc X.fd x i) (hc : noComp value = true)
    (h : Ev X (eval value X.env) m σ EQ fun a σ₁ => ∃ m', SetAt m i a m' ∧ QS .next m' σ₁) : Xs X (exec (.Assign [.Name x pos'] value pos) X.env) m σ EQ QS := by
  intro s S
  refine wpAny_Assign_Name (ev_then (h s S) (fun v s₁ a σ₁ r₁ S₁ P₁ h₁ => ?_) fun _ _ e => e) (swaps_no hc)
  obtain ⟨m', g, q⟩ := h₁
  exact store_local S₁ l g r₁ fun s' S' P' => ⟨.next, m', σ₁, rfl, S', P₁.trans P', q⟩
theorem Xs.ret {e : Expr} {pos : Pos} (h : Ev X (eval e X.env) m σ EQ fun a σ₁ => QS (.ret a) m σ₁) : Xs X (exec (.Return (some e) pos) X.env) m σ EQ QS := by
  intro s S
  exact wpAny_Return_some (ev_then (h s S) (fun v s₁ a σ₁ r₁ S₁ P₁ h₁ => ⟨.ret a, m, σ₁, ⟨v, rfl, r₁⟩, S₁, P₁, h₁⟩) fun _ _ e => e)
theorem Xs.pass {pos : Pos} (q : QS .next m σ) : Xs X (exec (.Pass pos) X.env) m σ EQ QS := fun s S => wpAny_Pass ⟨.next, m, σ, rfl, S, .refl S.noL _, q⟩
theorem Xs.brk {pos : Pos} (q : QS .brk m σ) : Xs X (exec (.Break pos) X.env) m σ EQ QS := fun s S => wpAny_Break ⟨.brk, m, σ, rfl, S, .refl S.noL _, q⟩
theorem Xs.cont {pos : Pos} (q : QS .cont m σ) : Xs X (exec (.Continue pos) X.env) m σ EQ QS := fun s S => wpAny_Continue ⟨.cont, m, σ, rfl, S, .refl S.noL _, q⟩
theorem not_inter (h : X.fd.scope.kind = .function) : interactive X.env = false := by
  show (X.fd.scope.kind == .module && _) = false
  rw [h]; rfl
theorem Xs.expr {e : Expr} {pos : Pos} (hc : noComp e = true) (h : Ev X (eval e X.env) m σ EQ fun a σ₁ => QS .next m σ₁) : Xs X (exec (.Expr e pos) X.env) m σ EQ QS := by
  intro s S
  exact wpAny_Expr_any (ev_then (h s S) (fun v s₁ a σ₁ r₁ S₁ P₁ h₁ => ⟨.next, m, σ₁, rfl, S₁, P₁, h₁⟩) fun _ _ e => e) (not_inter S.ok.kind) (swaps_no hc)
/-! tests -/
variable {QB : Bool → Hp → Prop}
noncomputable def TrAt (X : Fx) (m : Loc) (σ : Hp) (EQ : Addr → Loc → Hp → Prop) (a : AV) (QB : Bool → Hp → Prop) : Prop := ∀ v s, St X m σ s → VR s.heap a v → TtAt X (truthy v) m σ EQ QB s
theorem TrAt.bool {b : Bool} (q : QB b σ) : TrAt X m σ EQ (.bool b) QB := by
  intro v s S r
  obtain rfl := r.boolE
  exact wpAny_truthy_bool ⟨σ, S, .refl S.noL _, q⟩
theorem TrAt.list {x : Addr} {l : List AV} (hm : (x, .list l) ∈ σ) (hz : l.length < 2 ^ 60) (q : QB (!l.isEmpty) σ) : TrAt X m σ EQ (.ref x) QB := by
  intro v s S r
  obtain rfl := r.refE
  obtain ⟨is, ni, hi, z⟩ := S.hr.own _ hm
  have e : (!is.toArray.isEmpty) = !l.isEmpty := by have := z.length; cases is <;> cases l <;> simp_all
  exact wpAny_truthy_list ⟨_, hi, rfl, _, rfl⟩ (by have := z.length; simp only [List.size_toArray]; omega) (by rw [e]; exact ⟨σ, S.toks _, .refl S.noL _, q⟩)
noncomputable def plainTest : Expr → Bool
  | .Name .. | .Call .. | .Attribute .. | .Subscript .. => true
  | _ => false
theorem Tt.plain {e : Expr} (hp : plainTest e = true) (h : Ev X (eval e X.env) m σ EQ fun a σ₁ => TrAt X m σ₁ EQ a QB) : Tt X (isTrue e X.env (eval e X.env)) m σ EQ QB := by
  intro s S
  refine isTrue_plain (ev_then (h s S) (fun v s₁ a σ₁ r₁ S₁ P₁ h₁ => ?_) fun _ _ e => e) (by cases e <;> first | rfl | simp [plainTest] at hp)
  exact tt_from P₁ (h₁ v s₁ S₁ r₁)
theorem Tt.cmp {l op r pos} (hm : behindInMarks op r = false)
    (h : Ev X (eval l X.env) m σ EQ fun a σ₁ => Ev X (eval r X.env) m σ₁ EQ fun b σ₂ => Op2 X m σ₂ EQ (compareOp op) a b fun c σ₃ => ∃ t, c = .bool t ∧ QB t σ₃) :
    Tt X (isTrue (.Compare l [op] [r] pos) X.env (eval (.Compare l [op] [r] pos) X.env)) m σ EQ QB := by
  intro s S
  refine wpAny_isTrue_Compare1 (ev_then (h s S) (fun v s₁ a σ₁ r₁ S₁ P₁ h₁ => ?_) fun _ _ e => e) hm
  refine ev_then (h₁ s₁ S₁) (fun w s₂ b σ₂ r₂ S₂ P₂ h₂ => ?_) fun _ _ e => e.trans P₁
  refine ev_then (h₂ v w s₂ S₂ (S₁.vr P₂ r₁) r₂) (fun c s₃ t σ₃ r₃ S₃ P₃ h₃ => ?_) fun _ _ e => e.trans (P₁.trans P₂)
  obtain ⟨t, rfl, q⟩ := h₃
  obtain rfl := r₃.boolE
  exact wpAny_truthy_bool ⟨σ₃, S₃, (P₁.trans P₂).trans P₃, q⟩
theorem Tt.not {x pos whole} (h : Tt X (isTrue x X.env (eval x X.env)) m σ EQ fun c σ₁ => QB (!c) σ₁) : Tt X (isTrue (.UnaryOp .Not x pos) X.env whole) m σ EQ QB := by
  intro s S
  exact isTrue_not (tt_then (h s S) (fun b s₁ σ₁ S₁ P₁ h₁ => ⟨σ₁, S₁, P₁, h₁⟩) fun _ _ e => e)
theorem Tt.andNil {pos whole} (q : QB true σ) : Tt X (isTrue (.BoolOp .And [] pos) X.env whole) m σ EQ QB := fun s S => isTrue_and_nil ⟨σ, S, .refl S.noL _, q⟩
theorem Tt.orNil {pos whole} (q : QB false σ) : Tt X (isTrue (.BoolOp .Or [] pos) X.env whole) m σ EQ QB := fun s S => isTrue_or_nil ⟨σ, S, .refl S.noL _, q⟩
noncomputable def andX (X : Fx) (m : Loc) (EQ : Addr → Loc → Hp → Prop) (rest : Sem Bool) (QB : Bool → Hp → Prop) : Bool → Hp → Prop
  | true, σ => Tt X rest m σ EQ QB
  | false, σ => QB false σ
noncomputable def orX (X : Fx) (m : Loc) (EQ : Addr → Loc → Hp → Prop) (rest : Sem Bool) (QB : Bool → Hp → Prop) : Bool → Hp → Prop
  | false, σ => Tt X rest m σ EQ QB
  | true, σ => QB true σ
theorem Tt.and {x rest pos whole} (h : Tt X (isTrue x X.env (eval x X.env)) m σ EQ (andX X m EQ (isTrue (.BoolOp .And rest pos) X.env whole) QB)) :
    Tt X (isTrue (.BoolOp .And (x :: rest) pos) X.env whole) m σ EQ QB := by
  intro s S
  refine isTrue_and (tt_then (h s S) (fun b s₁ σ₁ S₁ P₁ h₁ => ?_) fun _ _ e => e)
  cases b with
  | true => exact tt_from P₁ (h₁ s₁ S₁)
  | false => exact ⟨σ₁, S₁, P₁, h₁⟩
theorem Tt.or {x rest pos whole} (h : Tt X (isTrue x X.env (eval x X.env)) m σ EQ (orX X m EQ (isTrue (.BoolOp .Or rest pos) X.env whole) QB)) :
    Tt X (isTrue (.BoolOp .Or (x :: rest) pos) X.env whole) m σ EQ QB := by
  intro s S
  refine isTrue_or (tt_then (h s S) (fun b s₁ σ₁ S₁ P₁ h₁ => ?_) fun _ _ e => e)
  cases b with
  | false => exact tt_from P₁ (h₁ s₁ S₁)
  | true => exact ⟨σ₁, S₁, P₁, h₁⟩
noncomputable def ifX (X : Fx) (m : Loc) (EQ : Addr → Loc → Hp → Prop) (a b : List Stmt) (QS : AF → Loc → Hp → Prop) : Bool → Hp → Prop
  | true, σ => Xs X (execs a X.env) m σ EQ QS
  | false, σ => Xs X (execs b X.env) m σ EQ QS
theorem Xs.ite {test : Expr} {body orelse : List Stmt} {pos : Pos} (h : Tt X (isTrue test X.env (eval test X.env)) m σ EQ (ifX X m EQ body orelse QS)) : Xs X (exec (.If test body orelse pos) X.env) m σ EQ QS := by
  intro s S
  refine wpAny_If (tt_then (h s S) (fun b s₁ σ₁ S₁ P₁ h₁ => ?_) fun _ _ e => e)
  cases b with
  | true => exact xs_from P₁ (h₁ s₁ S₁)
  | false => exact xs_from P₁ (h₁ s₁ S₁)
noncomputable def ifE (X : Fx) (m : Loc) (EQ : Addr → Loc → Hp → Prop) (a b : Expr) (Q : AV → Hp → Prop) : Bool → Hp → Prop
  | true, σ => Ev X (eval a X.env) m σ EQ Q
  | false, σ => Ev X (eval b X.env) m σ EQ Q
theorem Ev.ite {test body orelse : Expr} {pos : Pos} (h : Tt X (isTrue test X.env (eval test X.env)) m σ EQ (ifE X m EQ body orelse Q)) : Ev X (eval (.IfExp test body orelse pos) X.env) m σ EQ Q := by
  intro s S
  refine IfExp_ (tt_then (h s S) (fun b s₁ σ₁ S₁ P₁ h₁ => ?_) fun _ _ e => e)
  cases b with
  | true => exact ev_from P₁ (h₁ s₁ S₁)
  | false => exact ev_from P₁ (h₁ s₁ S₁)
end
open PySem PySem.W PySem.Calls PyProof.Rows PySem.SeqAt
noncomputable def aget {κ : Type} [DecidableEq κ] (kvs : List (κ × AV)) (k : κ) : Option AV := (kvs.find? fun kv => kv.1 = k).map (·.2)
noncomputable def aput {κ : Type} [DecidableEq κ] (kvs : List (κ × AV)) (k : κ) (v : AV) : List (κ × AV) :=
  if kvs.any (fun kv => kv.1 = k) then kvs.map (fun kv => if kv.1 = k then (kv.1, v) else kv) else kvs ++ [(k, v)]
section
variable {κ : Type} [DecidableEq κ] {h : Heap}
theorem PR.get {l : List (κ × AV)} {r : List (κ × Value)} (p : PR h l r) (k : κ) : OVR h (aget l k) (valueAt r k) := by
  induction p with
  | nil => rfl
  | @cons k' x v l r q _ ih =>
    unfold aget valueAt at *
    by_cases e : k' = k
    · simp only [List.find?_cons, e, decide_true, Option.map_some]; exact ⟨v, rfl, q⟩
    · simp only [List.find?_cons, e, decide_false]; exact ih
theorem PR.any {l : List (κ × AV)} {r : List (κ × Value)} (p : PR h l r) (k : κ) : l.any (fun kv => kv.1 = k) = r.any (fun kv => kv.1 = k) := by
  induction p with
  | nil => rfl
  | cons _ _ ih => simp [ih]
theorem PR.len {l : List (κ × AV)} {r : List (κ × Value)} (p : PR h l r) : l.length = r.length := by
  induction p with
  | nil => rfl
  | cons _ _ ih => simp [ih]
theorem PR.map {l : List (κ × AV)} {r : List (κ × Value)} (p : PR h l r) (k : κ) {a : AV} {v : Value} (q : VR h a v) :
    PR h (l.map fun kv => if kv.1 = k then (kv.1, a) else kv) (r.map fun kv => if kv.1 = k then (kv.1, v) else kv) := by
  induction p with
  | nil => exact .nil
  | @cons k' x w l r q' _ ih =>
    simp only [List.map_cons]
    by_cases e : k' = k
    · simp only [e, if_true]; exact .cons q ih
    · simp only [e, if_false]; exact .cons q' ih
theorem PR.snoc {l : List (κ × AV)} {r : List (κ × Value)} (p : PR h l r) (k : κ) {a : AV} {v : Value} (q : VR h a v) : PR h (l ++ [(k, a)]) (r ++ [(k, v)]) := by
  induction p with
  | nil => exact .cons q .nil
  | cons q' _ ih => exact .cons q' ih
theorem PR.put {l : List (κ × AV)} {r : List (κ × Value)} (p : PR h l r) (k : κ) {a : AV} {v : Value} (q : VR h a v) : PR h (aput l k a) (stored r k v) := by
  unfold aput stored
  rw [← p.any k]
  split
  · exact p.map k q
  · exact p.snoc k q
theorem PRH.get {l : List (κ × AV)} {r : List (κ × Addr × Value)} (p : PRH h l r) (k : κ) : OVR h (aget l k) ((atKey r k).map (·.2)) := by
  induction p with
  | nil => rfl
  | @cons k' x a v l r q _ ih =>
    unfold aget atKey at *
    by_cases e : k' = k
    · simp only [List.find?_cons, e, decide_true, Option.map_some]; exact ⟨v, rfl, q⟩
    · simp only [List.find?_cons, e, decide_false]; exact ih
theorem PRH.len {l : List (κ × AV)} {r : List (κ × Addr × Value)} (p : PRH h l r) : l.length = r.length := by
  induction p with
  | nil => rfl
  | cons _ _ ih => simp [ih]
theorem PRH.any {l : List (κ × AV)} {r : List (κ × Addr × Value)} (p : PRH h l r) (k : κ) : l.any (fun kv => kv.1 = k) = (atKey r k).isSome := by
  induction p with
  | nil => rfl
  | @cons k' x a v l r _ _ ih =>
    unfold atKey at *
    by_cases e : k' = k
    · simp [List.find?_cons, e]
    · simp only [List.any_cons, List.find?_cons, e, decide_false, Bool.false_or]; exact ih
theorem PRH.map {l : List (κ × AV)} {r : List (κ × Addr × Value)} (p : PRH h l r) (k : κ) {a : AV} {v : Value} (q : VR h a v) :
    PRH h (l.map fun kv => if kv.1 = k then (kv.1, a) else kv) (r.map (putAt k v)) := by
  induction p with
  | nil => exact .nil
  | @cons k' x w v' l r q' _ ih =>
    simp only [List.map_cons, putAt]
    by_cases e : k' = k
    · simp only [e, if_true]; exact .cons q ih
    · simp only [e, if_false]; exact .cons q' ih
theorem PRH.snoc {l : List (κ × AV)} {r : List (κ × Addr × Value)} (p : PRH h l r) (k : κ) {a : AV} {v : Value} (q : VR h a v) (ad : Addr) : PRH h (l ++ [(k, a)]) (r ++ [(k, ad, v)]) := by
  induction p with
  | nil => exact .cons q .nil
  | cons q' _ ih => exact .cons q' ih
theorem PRH.put {l : List (κ × AV)} {r : List (κ × Addr × Value)} (p : PRH h l r) (k : κ) {a : AV} {v : Value} (q : VR h a v) (ad : Addr) : PRH h (aput l k a) (storedH r k ad v) := by
  unfold aput storedH
  rw [← p.any k]
  split
  · exact p.map k q
  · exact p.snoc k q ad
theorem OVR.isSome {a : Option AV} {v : Option Value} (r : OVR h a v) : v.isSome = a.isSome := by
  cases a with
  | none => rw [show v = none from r]; rfl
  | some a => obtain ⟨x, rfl, _⟩ := r; rfl
theorem OVR.getD {a : Option AV} {v : Option Value} (r : OVR h a v) {d : AV} {w : Value} (q : VR h d w) : VR h (a.getD d) (v.getD w) := by
  cases a with
  | none => rw [show v = none from r]; exact q
  | some a => obtain ⟨x, rfl, y⟩ := r; exact y
end
section
variable {X : Fx} {m : Loc} {σ : Hp} {EQ : Addr → Loc → Hp → Prop} {Q : AV → Hp → Prop}
theorem not_sys {s : Shared} {d : Addr} {o : AO} (S : St X m σ s) (hm : (d, o) ∈ σ) : (d == sysModules) = false := by
  have := S.hr.lo _ hm
  have h2 : 2 ≤ d := this
  rw [beq_eq_false_iff_ne]
  intro e
  rw [e] at h2
  exact absurd h2 (by decide)
/-- the key of a dict as a value -/
class Keyed (κ : Type) [DecidableEq κ] where
  ao : List (κ × AV) → AO
  av : κ → AV
  draws : κ → Nat
  get : ∀ {X : Fx} {m : Loc} {σ : Hp} {s : Shared} {d : Addr} {kvs : List (κ × AV)} {k : κ} {v w : Value} {a : AV} {R : Value → Shared → Prop} {E : Value → Shared → Prop}, St X m σ s → 1 ≤ X.n → (d, ao kvs) ∈ σ → VR s.heap (av k) v → VR s.heap a w →
    (∀ y t, VR s.heap ((aget kvs k).getD a) y → R y { s with toks := t }) → wpAny X.M X.A (call (.builtin "dict.get") [.ref d, v, w]) R E s
  get1 : ∀ {X : Fx} {m : Loc} {σ : Hp} {s : Shared} {d : Addr} {kvs : List (κ × AV)} {k : κ} {v : Value} {R : Value → Shared → Prop} {E : Value → Shared → Prop}, St X m σ s → 1 ≤ X.n → (d, ao kvs) ∈ σ → VR s.heap (av k) v →
    (∀ y t, VR s.heap ((aget kvs k).getD .none) y → R y { s with toks := t }) → wpAny X.M X.A (call (.builtin "dict.get") [.ref d, v]) R E s
  has : ∀ {X : Fx} {m : Loc} {σ : Hp} {s : Shared} {d : Addr} {kvs : List (κ × AV)} {k : κ} {v : Value} {R : Value → Shared → Prop} {E : Value → Shared → Prop}, St X m σ s → 1 ≤ X.n → (d, ao kvs) ∈ σ → VR s.heap (av k) v →
    (∀ t, R (.bool (aget kvs k).isSome) { s with toks := t }) → wpAny X.M X.A (compareOp .In v (.ref d)) R E s
  item : ∀ {X : Fx} {m : Loc} {σ : Hp} {s : Shared} {d : Addr} {kvs : List (κ × AV)} {k : κ} {v : Value} {a : AV} {R : Value → Shared → Prop} {E : Value → Shared → Prop}, St X m σ s → 1 ≤ X.n → (d, ao kvs) ∈ σ → VR s.heap (av k) v → aget kvs k = some a →
    (∀ y t, VR s.heap a y → R y { s with toks := t }) → wpAny X.M X.A (getItem (.ref d) v) R E s
  put : ∀ {X : Fx} {m : Loc} {σ : Hp} {s : Shared} {d : Addr} {kvs : List (κ × AV)} {k : κ} {v w : Value} {a : AV} {R : Unit → Shared → Prop} {E : Value → Shared → Prop}, St X m σ s → 1 ≤ X.n → (d, ao kvs) ∈ σ → VR s.heap (av k) v → VR s.heap a w → kvs.length ≤ 100000 →
    (∀ h' t, ORel X.G h' d (ao (aput kvs k a)) → Heap.SameBut d s.heap h' → R () { s with heap := h', toks := t }) → wpAny X.M X.A (setItem (.ref d) v w) R E s
  typ : ∀ {G : Gl} {s : Shared} {d : Addr} {kvs : List (κ × AV)}, ORel G s.heap d (ao kvs) → s.TypeIs (.ref d) "dict" ∧ ∃ o, s.heap.get? d = some o ∧ o.dict = none
theorem sizeLine_big : 100000 ≤ sizeLine := by rw [sizeLine_eq]; omega
noncomputable instance : Keyed Str where
  ao := .dS
  av := .str
  draws _ := 1
  get := by
    intro X m σ s d kvs k v w a R E S hn hm hk ha h
    obtain ⟨r, hd, p⟩ := S.hr.own _ hm
    obtain ⟨t, rfl⟩ := hk.strE
    exact call_meetsIn PySem.F.slot_dict_get hd.typeIs PySem.F.entry_dict_get (PySem.F.args_dict_get_3 _ _ _) (meets_dict_get_default (strKind X.G.prog X.G.w) d (strKind_is X.G.prog X.G.w k t) (not_sys S hm) w) ⟨_, hd.mapOf, h _ _ ((p.get k).getD ha)⟩
  get1 := by
    intro X m σ s d kvs k v R E S hn hm hk h
    obtain ⟨r, hd, p⟩ := S.hr.own _ hm
    obtain ⟨t, rfl⟩ := hk.strE
    exact call_meetsIn PySem.F.slot_dict_get hd.typeIs PySem.F.entry_dict_get (PySem.F.args_dict_get_2 _ _) (meets_dict_get (strKind X.G.prog X.G.w) d (strKind_is X.G.prog X.G.w k t) (not_sys S hm)) ⟨_, hd.mapOf, h _ _ ((p.get k).getD .noneI)⟩
  has := by
    intro X m σ s d kvs k v R E S hn hm hk h
    obtain ⟨r, hd, p⟩ := S.hr.own _ hm
    obtain ⟨t, rfl⟩ := hk.strE
    exact wpAny_in_of (strKind_is X.G.prog X.G.w k t) (not_sys S hm) hd.mapOf (by rw [(p.get k).isSome]; exact h _)
  item := by
    intro X m σ s d kvs k v a R E S hn hm hk hg h
    obtain ⟨r, hd, p⟩ := S.hr.own _ hm
    obtain ⟨t, rfl⟩ := hk.strE
    have q := p.get k
    rw [hg] at q
    obtain ⟨y, hy, ry⟩ := q
    exact wpAny_getItem_of (strKind_is X.G.prog X.G.w k t) hd.mapOf hy (h _ _ ry)
  put := by
    intro X m σ s d kvs k v w a R E S hn hm hk ha hz h
    obtain ⟨r, hd, p⟩ := S.hr.own _ hm
    obtain ⟨t, rfl⟩ := hk.strE
    refine wpAny_setItem_pairs (strKind_is X.G.prog X.G.w k t) hd (fun h' hd' hs => h _ _ ⟨_, hd', ?_⟩ hs) (by rw [← p.len]; have := sizeLine_big; omega)
    exact (p.put k ha).keep (IsTup.keepBut (a := d) (fun b x hb e => (hs.2 b hb).trans e) fun items => (S.hr.own _ hm).noTup)
  typ := by
    intro G s d kvs r
    obtain ⟨r, hd, p⟩ := r
    obtain ⟨o, es, ep, ho, hx, _⟩ := hd
    exact ⟨⟨o, ho, hx.1⟩, o, ho, hx.2.1⟩
noncomputable instance : Keyed Int where
  ao := .dI
  av := .int
  draws _ := 1
  get := by
    intro X m σ s d kvs k v w a R E S hn hm hk ha h
    obtain ⟨r, hd, p⟩ := S.hr.own _ hm
    obtain ⟨t, rfl⟩ := hk.intE
    exact call_meetsIn PySem.F.slot_dict_get hd.typeIs PySem.F.entry_dict_get (PySem.F.args_dict_get_3 _ _ _) (meets_dict_get_default (intKind X.G.prog X.G.w) d (intKind_is X.G.prog X.G.w k t) (not_sys S hm) w) ⟨_, hd.mapOf, h _ _ ((p.get k).getD ha)⟩
  get1 := by
    intro X m σ s d kvs k v R E S hn hm hk h
    obtain ⟨r, hd, p⟩ := S.hr.own _ hm
    obtain ⟨t, rfl⟩ := hk.intE
    exact call_meetsIn PySem.F.slot_dict_get hd.typeIs PySem.F.entry_dict_get (PySem.F.args_dict_get_2 _ _) (meets_dict_get (intKind X.G.prog X.G.w) d (intKind_is X.G.prog X.G.w k t) (not_sys S hm)) ⟨_, hd.mapOf, h _ _ ((p.get k).getD .noneI)⟩
  has := by
    intro X m σ s d kvs k v R E S hn hm hk h
    obtain ⟨r, hd, p⟩ := S.hr.own _ hm
    obtain ⟨t, rfl⟩ := hk.intE
    exact wpAny_in_of (intKind_is X.G.prog X.G.w k t) (not_sys S hm) hd.mapOf (by rw [(p.get k).isSome]; exact h _)
  item := by
    intro X m σ s d kvs k v a R E S hn hm hk hg h
    obtain ⟨r, hd, p⟩ := S.hr.own _ hm
    obtain ⟨t, rfl⟩ := hk.intE
    have q := p.get k
    rw [hg] at q
    obtain ⟨y, hy, ry⟩ := q
    exact wpAny_getItem_of (intKind_is X.G.prog X.G.w k t) hd.mapOf hy (h _ _ ry)
  put := by
    intro X m σ s d kvs k v w a R E S hn hm hk ha hz h
    obtain ⟨r, hd, p⟩ := S.hr.own _ hm
    obtain ⟨t, rfl⟩ := hk.intE
    refine wpAny_setItem_pairs (intKind_is X.G.prog X.G.w k t) hd (fun h' hd' hs => h _ _ ⟨_, hd', ?_⟩ hs) (by rw [← p.len]; have := sizeLine_big; omega)
    exact (p.put k ha).keep (IsTup.keepBut (a := d) (fun b x hb e => (hs.2 b hb).trans e) fun items => (S.hr.own _ hm).noTup)
  typ := by
    intro G s d kvs r
    obtain ⟨r, hd, p⟩ := r
    obtain ⟨o, es, ep, ho, hx, _⟩ := hd
    exact ⟨⟨o, ho, hx.1⟩, o, ho, hx.2.1⟩
theorem ints_items {prog : Program} {w : World} {h : Heap} : ∀ {ks : List Int} {vs : List Value}, VRs h (ks.map AV.int) vs → ItemsAre (intKind prog w) ks vs
  | [], _, e => by obtain rfl := e.nilE; exact .nil
  | k :: ks, _, e => by
    obtain ⟨v, r, rfl, h1, h2⟩ := e.consE
    obtain ⟨t, rfl⟩ := h1.intE
    exact .cons (intKind_is prog w k t) (ints_items h2)
theorem ints_key {prog : Program} {w : World} {h : Heap} {ks : List Int} {v : Value} (r : VR h (.tup (ks.map AV.int)) v) : ∃ a, v = .ref a ∧ IsTupleKey (intKind prog w) h ks a := by
  obtain ⟨a, items, rfl, ⟨o, ho, hc, n, hd⟩, z⟩ := r.tupE
  exact ⟨a, rfl, o, _, n, ho, hc, hd, by simpa using ints_items z⟩
noncomputable instance : Keyed (List Int) where
  ao := .dT
  av ks := .tup (ks.map .int)
  draws ks := ks.length + 1
  get := by
    intro X m σ s d kvs k v w a R E S hn hm hk ha h
    obtain ⟨r, hd, p⟩ := S.hr.own _ hm
    obtain ⟨ad, rfl, tk⟩ := ints_key (prog := X.G.prog) (w := X.G.w) hk
    have hu := S.units
    exact call_meetsIn PySem.F.slot_dict_get hd.typeIs PySem.F.entry_dict_get (PySem.F.args_dict_get_3 _ _ _) (meetsH_dict_get_default (tupleKind (intKind X.G.prog X.G.w)) d ad (not_sys S hm) w) ⟨tupleKind_room_in1 (knd := intKind X.G.prog X.G.w) (by omega), k, _, tk, hd, h _ _ ((p.get k).getD ha)⟩
  get1 := by
    intro X m σ s d kvs k v R E S hn hm hk h
    obtain ⟨r, hd, p⟩ := S.hr.own _ hm
    obtain ⟨ad, rfl, tk⟩ := ints_key (prog := X.G.prog) (w := X.G.w) hk
    have hu := S.units
    exact call_meetsIn PySem.F.slot_dict_get hd.typeIs PySem.F.entry_dict_get (PySem.F.args_dict_get_2 _ _) (meetsH_dict_get (tupleKind (intKind X.G.prog X.G.w)) d ad (not_sys S hm)) ⟨tupleKind_room_in1 (knd := intKind X.G.prog X.G.w) (by omega), k, _, tk, hd, h _ _ ((p.get k).getD .noneI)⟩
  has := by
    intro X m σ s d kvs k v R E S hn hm hk h
    obtain ⟨r, hd, p⟩ := S.hr.own _ hm
    obtain ⟨ad, rfl, tk⟩ := ints_key (prog := X.G.prog) (w := X.G.w) hk
    have hu := S.units
    refine wpAny_in_heap (knd := tupleKind (intKind X.G.prog X.G.w)) (tupleKind_room_in1 (by omega)) tk (not_sys S hm) hd ?_
    have : (atKey r k).isSome = (aget kvs k).isSome := by rw [← (p.get k).isSome]; cases atKey r k <;> rfl
    rw [this]; exact h _
  item := by
    intro X m σ s d kvs k v a R E S hn hm hk hg h
    obtain ⟨r, hd, p⟩ := S.hr.own _ hm
    obtain ⟨ad, rfl, tk⟩ := ints_key (prog := X.G.prog) (w := X.G.w) hk
    have hu := S.units
    have q := p.get k
    rw [hg] at q
    obtain ⟨y, hy, ry⟩ := q
    obtain ⟨⟨a', y'⟩, hp, e⟩ := Option.map_eq_some_iff.mp hy
    cases e
    exact wpAny_getItem_heap (knd := tupleKind (intKind X.G.prog X.G.w)) (tupleKind_room_in1 (by omega)) tk hd hp (h _ _ ry)
  put := by
    intro X m σ s d kvs k v w a R E S hn hm hk ha hz h
    obtain ⟨r, hd, p⟩ := S.hr.own _ hm
    obtain ⟨ad, rfl, tk⟩ := ints_key (prog := X.G.prog) (w := X.G.w) hk
    have hu := S.units
    refine wpAny_setItem_heap (knd := tupleKind (intKind X.G.prog X.G.w)) (tupleKind_room_in1 (by omega)) tk hd (fun h' hd' hs => h _ _ ⟨_, hd', ?_⟩ hs) (by rw [← p.len]; have := sizeLine_big; omega)
    exact (p.put k ha ad).keep (IsTup.keepBut (a := d) (fun b x hb e => (hs.2 b hb).trans e) fun items => (S.hr.own _ hm).noTup)
  typ := by
    intro G s d kvs r
    obtain ⟨r, hd, p⟩ := r
    obtain ⟨o, es, ep, ho, hx, _⟩ := hd
    exact ⟨⟨o, ho, hx.1⟩, o, ho, hx.2.1⟩
end
open PySem PySem.W PySem.Calls PyProof.Rows PySem.SeqAt
section
variable {X : Fx} {m : Loc} {σ : Hp} {EQ : Addr → Loc → Hp → Prop} {Q : AV → Hp → Prop} {QS : AF → Loc → Hp → Prop}
/-! stores -/
theorem obj_putName {o : Obj} {es : Array DictEntry} {ep : Nat} (hd : o.data = .dict es ep) (name : Str) (h : Int) (key v : Value) :
    ∃ es' ep', (Obj.putName name h key v o).data = .dict es' ep' ∧ (es' = match es.findIdx? (fun x => x.key.isStr name) with | some i => es.modify i fun e => { e with val := v } | none => es.push ⟨h, key, v⟩) := by
  obtain ⟨c, d, dt, sl⟩ := o
  simp only at hd; subst hd
  rw [Obj.putName_eq]
  unfold Obj.putNameByArray
  dsimp only
  cases es.findIdx? (fun x => x.key.isStr name) with
  | none => exact ⟨_, _, rfl, rfl⟩
  | some i => exact ⟨_, _, rfl, rfl⟩
set_option maxHeartbeats 1000000 in
theorem setAttr_own {x C dx : Addr} {attr : Str} {names : List Str} {vals vals' : List (Option AV)} {i : Nat} {a : AV} {v : Value} {s : Shared} {σ' : Hp} {R : Unit → Shared → Prop} {E : Value → Shared → Prop}
    (S : St X m σ s) (hx : (x, .inst C dx) ∈ σ) (u : UpdL dx (.ns names vals) (.ns names vals') σ σ') (c : AtC X.G.K C attr) (w : StC X.G.K C) (n : NIx names attr i) (g : SetAt vals i a vals') (hz : vals.length ≤ 900) (hi : i ≤ 900)
    (r : VR s.heap a v) (q : ∀ s', St X m σ' s' → Step X.L σ σ' s.heap s'.heap → R () s') : wpAny X.M X.A (setAttr (.ref x) attr v) R E s := by
  obtain ⟨o, es, ep, I, h2, h3, h4, h5, h6⟩ := S.inst hx u.mem
  have X1 := S.kin
  refine set_plain X1 I w.set ?_
  have ht : takerIn X.G.K C attr = some none := by unfold takerIn; rw [c.fnd]; rfl
  refine osa_open (s := { s with toks := s.toks + 1 }) X1 I w.over ht fun b => ?_
  obtain ⟨cd, hc, hd'⟩ := any_some c.dict
  refine wpAny_bind (wpAny_pure (wpAny_bind (wpAny_bind (wpAny_loadPart I.at_ (wpAny_bind ((looks_clsIn (M := model X.G.prog X.G.w) X1 hc) _ _ _ _ (fun _ _ e => e) ?_))))))
  rw [hd']
  refine wpAny_pure (a := some dx) (wpAny_bind (wpAny_pure (wpAny_bind ?_)))
  unfold nsSet
  refine wpAny_bind (wpAny_bind (wpAny_askSetting (wpAny_pure (wpAny_bind (wpAny_mkText (wpAny_bind (wpAny_loadPart h2 ?_)))))))
  rw [h3]
  dsimp only
  have hno : (!es.any (·.key.isStr attr) && es.any (·.refKey)) = false := by
    have : es.any (·.refKey) = false := by
      rw [Array.any_eq_false']; intro e he; obtain ⟨n, t, h⟩ := h4 e he; simp [DictEntry.refKey, h]
    rw [this, Bool.and_false]
  rw [aRefKeyMayBeTheName_at, hno]
  refine wpAny_updatePart h2 ?_
  generalize hH : (if attr.cps.isEmpty = true then (0 : Int) else reduceHash ((model X.G.prog X.G.w).w.params.strHash attr.cps)) = H
  obtain ⟨es', ep', e1, e2⟩ := obj_putName h3 attr H (.str attr (s.toks + 1)) v
  have hfree : (Obj.putName attr H (.str attr (s.toks + 1)) v o).isFreed = false := Obj.isFreed_of_dict e1
  have get' := Heap.get?_update_self (Obj.putName attr H (.str attr (s.toks + 1)) v) h2 hfree
  have sz : es'.size ≤ vals'.countP (·.isSome) := by
    rw [g.count, e2]
    cases hq : es.findIdx? (fun x => x.key.isStr attr) with
    | some j => simp only [Array.size_modify]; omega
    | none =>
      simp only [Array.size_push]
      have hf := h5 attr
      have hnone : nsFind es attr = none := by unfold nsFind; rw [findBy_of_findIdx?, hq]
      rw [hnone] at hf
      have : (vals[i]?).join = none := by
        have e : getN names vals attr = (vals[i]?).join := by unfold getN; rw [show names.findIdx? (· == attr) = some i from n]
        rw [e] at hf
        cases hj : (vals[i]?).join with
        | none => rfl
        | some a => rw [hj] at hf; obtain ⟨_, h, _⟩ := hf; cases h
      rw [this]; simp; omega
  have szz : es'.size ≤ sizeLine + 1 := by
    have h1 := g.len
    have h2 : vals'.countP (·.isSome) ≤ vals'.length := List.countP_le_length
    rw [sizeLine_eq]; omega
  have sk : StrKeys es' := by
    rw [e2]
    cases es.findIdx? (fun x => x.key.isStr attr) with
    | some j => exact h4.modify j v
    | none => exact h4.push H attr _ v
  have fnd : ∀ y, nsFind es' y = if y = attr then some v else nsFind es y := by
    intro y
    rw [e2]
    cases hq : es.findIdx? (fun x => x.key.isStr attr) with
    | some j => exact findBy_modify (fun n v => v.isStr n) Value.isStr_inj es attr y v j hq
    | none =>
      refine findBy_push (fun n v => v.isStr n) es attr y H (.str attr (s.toks + 1)) v (fun y => ?_) hq
      show (attr == y) = _
      by_cases e : y = attr
      · rw [e, decide_eq_true rfl]; exact beq_self_eq_true attr
      · rw [decide_eq_false e]; exact beq_eq_false_iff_ne.mpr (Ne.symm e)
  have keep : ∀ b x, b ≠ dx → s.heap.get? b = some x → (s.heap.update dx (Obj.putName attr H (.str attr (s.toks + 1)) v)).get? b = some x := fun b x hb e => (Heap.get?_update_other _ _ (Ne.symm hb)).trans e
  have kt := IsTup.keepBut keep (fun items => (S.hr.own _ u.mem).noTup)
  have P := S.upd (tk := s.toks + 1 + 1) u keep ⟨_, es', ep', get', e1, sk, fun y => by
    rw [getN_set n g y, fnd y]
    by_cases e : y = attr
    · rw [if_pos e, if_pos e]; exact ⟨v, rfl, r.keep kt⟩
    · rw [if_neg e, if_neg e]; exact (h5 y).keep kt, sz⟩
  refine wpAny_bind (wpAny_lookBehind get' (by rw [e1]; exact pastItsLine_dict szz) (wpAny_pure ?_))
  exact q _ P.1 P.2
theorem Xs.setAttr {o value : Expr} {attr : Str} {pos' pos : Pos} (hc : noComp value = true)
    (h : Ev X (eval value X.env) m σ EQ fun a σ₁ => Ev X (eval o X.env) m σ₁ EQ fun ov σ₂ => ∃ x C dx names vals vals' i σ', ov = .ref x ∧ (x, .inst C dx) ∈ σ₂ ∧ UpdL dx (.ns names vals) (.ns names vals') σ₂ σ' ∧ AtC X.G.K C attr ∧ StC X.G.K C ∧ NIx names attr i ∧ SetAt vals i a vals' ∧
      vals.length ≤ 900 ∧ i ≤ 900 ∧ QS .next m σ') : Xs X (exec (.Assign [.Attribute o attr pos'] value pos) X.env) m σ EQ QS := by
  intro s S
  refine plainObj_wpAny_Assign_Attribute (ev_then (h s S) (fun v s₁ a σ₁ r₁ S₁ P₁ h₁ => ?_) fun _ _ e => e) (swaps_no hc)
  refine ev_then (h₁ s₁ S₁) (fun w s₂ b σ₂ r₂ S₂ P₂ h₂ => ?_) fun _ _ e => e.trans P₁
  obtain ⟨x, C, dx, names, vals, vals', i, σ', rfl, hx, u, c, wc, n, g, hz, hi, q⟩ := h₂
  obtain rfl := r₂.refE
  exact setAttr_own S₂ hx u c wc n g hz hi (S₁.vr P₂ r₁) fun s' S' P' => ⟨.next, m, σ', rfl, S', (P₁.trans P₂).trans P', q⟩
theorem Xs.setItem {κ : Type} [DecidableEq κ] [Keyed κ] {o i value : Expr} {pos' pos : Pos} (hc : noComp value = true)
    (h : Ev X (eval value X.env) m σ EQ fun a σ₁ => Ev X (eval o X.env) m σ₁ EQ fun ov σ₂ => Ev X (eval i X.env) m σ₂ EQ fun kv σ₃ => ∃ d kvs k σ', ov = .ref d ∧ kv = Keyed.av (κ := κ) k ∧ UpdL d (Keyed.ao kvs) (Keyed.ao (aput kvs k a)) σ₃ σ' ∧ kvs.length ≤ 100000 ∧ 1 ≤ X.n ∧ QS .next m σ') :
    Xs X (exec (.Assign [.Subscript o i pos'] value pos) X.env) m σ EQ QS := by
  intro s S
  refine wpAny_Assign_Subscript (ev_then (h s S) (fun v s₁ a σ₁ r₁ S₁ P₁ h₁ => ?_) fun _ _ e => e) (swaps_no hc)
  refine ev_then (h₁ s₁ S₁) (fun w s₂ b σ₂ r₂ S₂ P₂ h₂ => ?_) fun _ _ e => e.trans P₁
  refine ev_then (h₂ s₂ S₂) (fun z s₃ c σ₃ r₃ S₃ P₃ h₃ => ?_) fun _ _ e => e.trans (P₁.trans P₂)
  obtain ⟨d, kvs, k, σ', rfl, rfl, u, hz, hn, q⟩ := h₃
  obtain rfl := r₂.refE
  refine Keyed.put (κ := κ) S₃ hn u.mem r₃ (S₂.vr P₃ (S₁.vr P₂ r₁)) hz fun h' t ho hs => ?_
  have P := S₃.upd (tk := t) u (fun b x hb e => (hs.2 b hb).trans e) ho
  exact ⟨.next, m, σ', rfl, P.1, ((P₁.trans P₂).trans P₃).trans P.2, q⟩
theorem Op2.itDict {κ : Type} [DecidableEq κ] [Keyed κ] {value slice : Expr} {d : Addr} {kvs : List (κ × AV)} {k : κ} {a : AV} (hs : plainSlice slice = true) (hn : 1 ≤ X.n) (hm : (d, Keyed.ao kvs) ∈ σ) (hg : aget kvs k = some a) (q : Q a σ) :
    Op2 X m σ EQ (subscriptTail value slice) (.ref d) (Keyed.av k) Q := by
  intro _ w s S r₁ r₂
  obtain rfl := r₁.refE
  exact tail_any (A := X.A) (Keyed.typ (S.hr.own _ hm)).1 slot_dict_getitem.lookup (Keyed.item S hn hm r₂ hg fun y t r => doneT S r q) (subscripted_plain hs _ _)
theorem Op2.inDict {κ : Type} [DecidableEq κ] [Keyed κ] {d : Addr} {kvs : List (κ × AV)} {k : κ} (hn : 1 ≤ X.n) (hm : (d, Keyed.ao kvs) ∈ σ) (q : Q (.bool (aget kvs k).isSome) σ) : Op2 X m σ EQ (compareOp .In) (Keyed.av k) (.ref d) Q := by
  intro v _ s S r₁ r₂
  obtain rfl := r₂.refE
  exact Keyed.has S hn hm r₁ fun t => doneT S .boolI q
/-! calls -/
noncomputable def keepOk (K : Frag) : AV → Bool
  | .ref a => keepIn K (.ref a)
  | .oth (.builtin _) => true
  | .oth (.type _) => true
  | _ => false
theorem keeper_ok {K : Frag} {f : AV} {vf : Value} {h₀ : Heap} (hk : keepOk K f = true) (r : VR h₀ f vf) (M : Model) (h : Heap) (XK : K.In h) : ∃ k, (k = Keeper.frame ∨ k = Keeper.machine ∨ k = Keeper.boundFrame) ∧ Looks M h (keeperOf vf) k := by
  cases f with
  | ref a => obtain rfl := r.refE; exact keeps_K (K := K) (f := .ref a) (show keepIn K (.ref a) = true from hk) h XK
  | oth v =>
    obtain rfl := r.othE
    cases vf <;> first | exact ⟨.machine, .inr (.inl rfl), Looks.of_pure rfl⟩ | simp [keepOk] at hk
  | _ => simp [keepOk] at hk
/-- the call of a value, upon arguments of whom these things are known -/
noncomputable def Cl (X : Fx) (m : Loc) (σ : Hp) (EQ : Addr → Loc → Hp → Prop) (f : AV) (l : List AV) (Q : AV → Hp → Prop) : Prop :=
  ∀ vf vs s, St X m σ s → VR s.heap f vf → VRs s.heap l vs → EvAt X (call vf vs) m σ EQ Q s
theorem evalArgs_list {M : Model} {A : Around} {E : Value → Shared → Prop} {s : Shared} {f : Value} {env : Env} {es : List Expr} {R : Args → Shared → Prop}
    (h : wpAny M A (spliced (es.map fun e => (false, eval e env))) (fun vs s' => R ⟨vs, []⟩ s') E s) : wpAny M A (evalArgs f true (es.map fun e => (false, eval e env)) []) R E s := by
  cases es with
  | nil =>
    unfold evalArgs
    show wpAny M A (spliced [] >>= _) _ _ _
    refine wpAny_bind (wpAny_mono h (fun vs s' h' => wpAny_bind (wpAny_pure ?_)) fun _ _ e => e)
    refine wpAny_holding ?_
    exact wpAny_bind (wpAny_pure (wpAny_bind (wpAny_pure (wpAny_pure h'))))
  | cons e r => exact Calls.evalArgs_plain h
theorem callWith_list {pos : Pos} {f : AV} {first : List AV} {vf : Value} {vfirst : List Value} {es : List Expr} {s : Shared} (S : St X m σ s) (hk : keepOk X.G.K f = true) (rf : VR s.heap f vf) (rr : VRs s.heap first vfirst) (hs : noStar es = true)
    (h : EvL X es m σ EQ fun l σ₁ => Cl X m σ₁ EQ f (first ++ l) Q) : EvAt X (callWith pos vf vfirst (backTo pos (starEach es X.env)) []) m σ EQ Q s := by
  rw [backTo_plain hs]
  refine callWith_of (P := X.G.K.In) (by simp) (fun h XK => keeper_ok hk rf X.M h XK) (evalArgs_list (evs_then ((Evs.of h) s S) (fun vs s₁ l σ₁ r₁ S₁ P₁ h₁ => ⟨S₁.kin, ?_⟩) fun _ _ e => e))
  exact ev_from P₁ (h₁ vf _ s₁ S₁ (S.vr P₁ rf) ((S.vrs P₁ rr).append r₁))
end
open PySem PySem.W PySem.Calls PyProof.Rows PySem.SeqAt
section
variable {X : Fx} {m : Loc} {σ : Hp} {EQ : Addr → Loc → Hp → Prop} {Q : AV → Hp → Prop} {QS : AF → Loc → Hp → Prop}
/-! calls by a name, by a method -/
theorem Ev.callN {id : Str} {p pos : Pos} {args : List Expr} (hs : noStar args = true)
    (h : Ev X (eval (.Name id p) X.env) m σ EQ fun f σ₁ => keepOk X.G.K f = true ∧ EvL X args m σ₁ EQ fun l σ₂ => Cl X m σ₂ EQ f l Q) : Ev X (eval (.Call (.Name id p) args [] pos) X.env) m σ EQ Q := by
  intro s S
  refine wpAny_Call_Name_kw (ev_then (h s S) (fun v s₁ a σ₁ r₁ S₁ P₁ h₁ => ?_) fun _ _ e => e)
  exact ev_from P₁ (callWith_list S₁ h₁.1 r₁ .nil hs h₁.2)
/-- the method of that name of a value: f -/
noncomputable def Mth (X : Fx) (m : Loc) (σ : Hp) (ov : AV) (name : Str) (f : Value) : Prop :=
  ∀ v s pl (R : Value × List Value → Shared → Prop) (E : Value → Shared → Prop), St X m σ s → VR s.heap ov v → R (f, [v]) s → wpAny X.M X.A (getMethod v name pl) R E s
noncomputable def avOf : Value → AV
  | .ref a => .ref a
  | v => .oth v
theorem avOf_vr {h : Heap} {v : Value} : VR h (avOf v) v := by
  cases v <;> first | exact VR.refI | exact VR.othI
theorem Ev.callM {o : Expr} {name : Str} {apos pos : Pos} {args : List Expr} {pl : Sem Bool} (hs : noStar args = true)
    (he : eval (.Call (.Attribute o name apos) args [] pos) X.env = (do
      let ov ← eval o X.env
      standAt apos.atName
      let (f, first) ← holding [ov] (getMethod ov name pl)
      callWith pos f first (backTo pos (starEach args X.env)) (backToKw pos (keywordEach [] X.env))))
    (h : Ev X (eval o X.env) m σ EQ fun ov σ₁ => ∃ f, Mth X m σ₁ ov name f ∧ keepOk X.G.K (avOf f) = true ∧ EvL X args m σ₁ EQ fun l σ₂ => Cl X m σ₂ EQ (avOf f) (ov :: l) Q) :
    Ev X (eval (.Call (.Attribute o name apos) args [] pos) X.env) m σ EQ Q := by
  intro s S
  refine methodCall_KW (pl := pl) (ev_then (h s S) (fun v s₁ a σ₁ r₁ S₁ P₁ h₁ => ?_) fun _ _ e => e) he
  obtain ⟨f, hm, hk, hl⟩ := h₁
  refine hm v s₁ pl _ _ S₁ r₁ ?_
  exact ev_from P₁ (callWith_list S₁ hk avOf_vr (.one r₁) hs hl)
theorem Mth.own {x C dx f : Addr} {name : Str} {names : List Str} {vals : List (Option AV)} (hx : (x, .inst C dx) ∈ σ) (hd : (dx, .ns names vals) ∈ σ) (c : MtC X.G.K C name f)
    (n : names.findIdx? (· == name) = none) : Mth X m σ (.ref x) name (.ref f) := by
  intro v s pl R E S r q
  obtain rfl := r.refE
  exact method_own S hx hd c n q
theorem Mth.list {x : Addr} {l : List AV} {name : Str} {id : String} (hm : (x, .list l) ∈ σ) (slot : Slot "list" name id) (hty : typeOf (.builtin id) = pure (.type "method_descriptor")) : Mth X m σ (.ref x) name (.builtin id) := by
  intro v s pl R E S r q
  obtain rfl := r.refE
  obtain ⟨is, ni, hi, z⟩ := S.hr.own _ hm
  exact getMethod_builtin ⟨_, hi, rfl⟩ PySem.F.plainAttrs_list slot hty (fun a e => by cases e; exact ⟨_, hi, rfl⟩) q
theorem Mth.append {x : Addr} {l : List AV} (hm : (x, .list l) ∈ σ) : Mth X m σ (.ref x) "append" (.builtin "list.append") := by
  intro v s pl R E S r q
  obtain rfl := r.refE
  obtain ⟨is, ni, hi, z⟩ := S.hr.own _ hm
  exact getMethod_list_append hi rfl rfl q
theorem Mth.pop {x : Addr} {l : List AV} (hm : (x, .list l) ∈ σ) : Mth X m σ (.ref x) "pop" (.builtin "list.pop") := .list hm PySem.F.slot_list_pop PySem.F.type_list_pop
theorem Mth.reverse {x : Addr} {l : List AV} (hm : (x, .list l) ∈ σ) : Mth X m σ (.ref x) "reverse" (.builtin "list.reverse") := .list hm PySem.F.slot_list_reverse PySem.F.type_list_reverse
theorem Mth.get {κ : Type} [DecidableEq κ] [Keyed κ] {x : Addr} {l : List (κ × AV)} (hm : (x, Keyed.ao l) ∈ σ) : Mth X m σ (.ref x) "get" (.builtin "dict.get") := by
  intro v s pl R E S r q
  obtain rfl := r.refE
  obtain ⟨ht, o, ho, hd⟩ := Keyed.typ (S.hr.own _ hm)
  exact getMethod_builtin ht PySem.F.plainAttrs_dict PySem.F.slot_dict_get PySem.F.type_dict_get (fun a e => by cases e; exact ⟨o, ho, hd⟩) q
/-! built-in calls -/
theorem Cl.one {f : Value} {a : AV} (h : ∀ v s, St X m σ s → VR s.heap a v → EvAt X (call f [v]) m σ EQ Q s) : Cl X m σ EQ (.oth f) [a] Q := by
  intro vf vs s S rf rs
  obtain rfl := rf.othE
  obtain ⟨v, r, rfl, h1, h2⟩ := rs.consE
  obtain rfl := h2.nilE
  exact h v s S h1
theorem Cl.two {f : Value} {a b : AV} (h : ∀ v w s, St X m σ s → VR s.heap a v → VR s.heap b w → EvAt X (call f [v, w]) m σ EQ Q s) : Cl X m σ EQ (.oth f) [a, b] Q := by
  intro vf vs s S rf rs
  obtain rfl := rf.othE
  obtain ⟨v, r, rfl, h1, h2⟩ := rs.consE
  obtain ⟨w, r, rfl, h3, h4⟩ := h2.consE
  obtain rfl := h4.nilE
  exact h v w s S h1 h3
theorem Cl.three {f : Value} {a b c : AV} (h : ∀ v w z s, St X m σ s → VR s.heap a v → VR s.heap b w → VR s.heap c z → EvAt X (call f [v, w, z]) m σ EQ Q s) : Cl X m σ EQ (.oth f) [a, b, c] Q := by
  intro vf vs s S rf rs
  obtain rfl := rf.othE
  obtain ⟨v, r, rfl, h1, h2⟩ := rs.consE
  obtain ⟨w, r, rfl, h3, h4⟩ := h2.consE
  obtain ⟨z, r, rfl, h5, h6⟩ := h4.consE
  obtain rfl := h6.nilE
  exact h v w z s S h1 h3 h5
theorem Cl.len {x : Addr} {l : List AV} (hm : (x, .list l) ∈ σ) (hz : l.length < 2 ^ 60) (q : Q (.int l.length) σ) : Cl X m σ EQ (.oth (.builtin "len")) [.ref x] Q := .one fun v s S r => by
  obtain rfl := r.refE
  obtain ⟨is, ni, hi, z⟩ := S.hr.own _ hm
  have e : is.toArray.size = l.length := by simp [z.length]
  refine call_len_list ⟨_, hi, rfl, _, rfl⟩ (by rw [e]; omega) ?_
  rw [e]; exact doneT S .intI q
theorem Cl.int {i : Int} (q : Q (.int i) σ) : Cl X m σ EQ (.oth (.type "int")) [.int i] Q := .one fun v s S r => by
  obtain ⟨t, rfl⟩ := r.intE
  exact call_int_int (done S .intI q)
theorem Cl.tuple {l : List AV} (q : Q (.tup l) σ) : Cl X m σ EQ (.oth (.type "tuple")) [.tup l] Q := .one fun v s S r => by
  obtain ⟨a, is, rfl, t, z⟩ := r.tupE
  exact call_tuple_same t (done S (.tupI t z) q)
theorem Cl.range1 {b : Int} (q : ∀ x, Q (.ref x) ((x, .rng 0 b) :: σ)) : Cl X m σ EQ (.oth (.type "range")) [.int b] Q := .one fun v s S r => by
  obtain ⟨t, rfl⟩ := r.intE
  refine call_range_1 ?_
  have P := S.alloc (tk := s.toks + 1 + 1) (a := s.heap.objs.size) (ao := .rng 0 b) (h' := s.heap.push { cls := .type "range", data := .fields #[.int 0 s.toks, .int b t, .int 1 (s.toks + 1)] }) (fun b o e => Heap.get?_push_of_some _ e) (Heap.get?_none_of_le (Nat.le_refl _)) S.two
    ⟨_, _, _, Heap.get?_push_size _ rfl⟩
  exact doneH P .refI (q _)
theorem Cl.range2 {a b : Int} (q : ∀ x, Q (.ref x) ((x, .rng a b) :: σ)) : Cl X m σ EQ (.oth (.type "range")) [.int a, .int b] Q := .two fun v w s S r r' => by
  obtain ⟨t, rfl⟩ := r.intE
  obtain ⟨u, rfl⟩ := r'.intE
  refine call_range_2 ?_
  have P := S.alloc (tk := s.toks + 1) (a := s.heap.objs.size) (ao := .rng a b) (h' := s.heap.push { cls := .type "range", data := .fields #[.int a t, .int b u, .int 1 s.toks] }) (fun b o e => Heap.get?_push_of_some _ e) (Heap.get?_none_of_le (Nat.le_refl _)) S.two
    ⟨_, _, _, Heap.get?_push_size _ rfl⟩
  exact doneH P .refI (q _)
theorem updList {s : Shared} {x : Addr} {l l' : List AV} {σ' : Hp} {f : Array Value → Array Value} {is : List Value} {ni : Nat} {tk : Nat} (S : St X m σ s) (u : UpdL x (.list l) (.list l') σ σ') (hi : s.heap.get? x = some (listO is ni))
    (h : VRs s.heap l' (f is.toArray).toList) : St X m σ' { s with heap := s.heap.update x (Obj.mapSeq f), toks := tk } ∧ Step X.L σ σ' s.heap (s.heap.update x (Obj.mapSeq f)) := by
  have keep : ∀ b o, b ≠ x → s.heap.get? b = some o → (s.heap.update x (Obj.mapSeq f)).get? b = some o := fun b o hb e => (Heap.get?_update_other _ _ (Ne.symm hb)).trans e
  have kt := IsTup.keepBut keep (fun items => (S.hr.own _ u.mem).noTup)
  have g : (s.heap.update x (Obj.mapSeq f)).get? x = some (Obj.mapSeq f (listO is ni)) := Heap.get?_update_self _ hi rfl
  refine S.upd u keep ⟨(f is.toArray).toList, (if (f is.toArray).size == is.toArray.size then ni else ni + 1), ?_, h.keep kt⟩
  rw [g]
  unfold listO
  rw [Array.toArray_toList]
  rfl
theorem Cl.append {x : Addr} {l : List AV} {a : AV} {σ' : Hp} (u : UpdL x (.list l) (.list (l ++ [a])) σ σ') (hz : l.length ≤ 100000) (q : Q .none σ') : Cl X m σ EQ (.oth (.builtin "list.append")) [.ref x, a] Q := .two fun v w s S r r' => by
  obtain rfl := r.refE
  obtain ⟨is, ni, hi, z⟩ := S.hr.own _ u.mem
  refine call_meets PySem.F.slot_list_append ⟨_, hi, rfl⟩ PySem.F.entry_list_append (PySem.F.args_list_append_2 _ _) (list_append x is.toArray ni w (by simp [z.length]; have := sizeLine_big; omega)) ⟨hi, ?_⟩
  have P := updList (tk := s.toks) (f := fun xs => xs.push w) S u hi (by simpa using z.append (.one r'))
  exact doneH P .noneI q
theorem Cl.pop {x : Addr} {l : List AV} {a : AV} {σ' : Hp} (u : UpdL x (.list (l ++ [a])) (.list l) σ σ') (hz : l.length ≤ 90000) (q : Q a σ') : Cl X m σ EQ (.oth (.builtin "list.pop")) [.ref x] Q := .one fun v s S r => by
  obtain rfl := r.refE
  obtain ⟨is, ni, hi, z⟩ := S.hr.own _ u.mem
  have hl : is.length = l.length + 1 := by simpa using z.length
  obtain ⟨y, hy, ry⟩ := z.get (i := l.length) (a := a) (by simp)
  refine call_meets PySem.F.slot_list_pop ⟨_, hi, rfl⟩ PySem.F.entry_list_pop (PySem.F.args_list_pop_1 _) (MeetsSeq.list_pop_last x is.toArray ni y (by simpa [hl] using hy) (by simp [hl]; have := sizeLine_big; omega)) ⟨hi, ?_⟩
  have P := updList (tk := s.toks) (f := fun xs => xs.eraseIdxIfInBounds (is.toArray.size - 1)) S u hi (by
    have h2 := z.take l.length
    simp only [List.take_left'] at h2
    have e : (is.toArray.eraseIdxIfInBounds (is.toArray.size - 1)).toList = is.take l.length := by
      simp [Array.eraseIdxIfInBounds, hl, List.eraseIdx_eq_take_drop_succ]
    rw [e]; simpa using h2)
  exact doneH P (S.vr P.2 ry) q
theorem Cl.get {κ : Type} [DecidableEq κ] [Keyed κ] {d : Addr} {kvs : List (κ × AV)} {k : κ} {a : AV} (hn : 1 ≤ X.n) (hm : (d, Keyed.ao kvs) ∈ σ) (q : Q ((aget kvs k).getD a) σ) : Cl X m σ EQ (.oth (.builtin "dict.get")) [.ref d, Keyed.av k, a] Q := .three fun v w z s S r r' r'' => by
  obtain rfl := r.refE
  exact Keyed.get S hn hm r' r'' fun y t ry => doneT S ry q
theorem Cl.get1 {κ : Type} [DecidableEq κ] [Keyed κ] {d : Addr} {kvs : List (κ × AV)} {k : κ} (hn : 1 ≤ X.n) (hm : (d, Keyed.ao kvs) ∈ σ) (q : Q ((aget kvs k).getD .none) σ) : Cl X m σ EQ (.oth (.builtin "dict.get")) [.ref d, Keyed.av k] Q := .two fun v w s S r r' => by
  obtain rfl := r.refE
  exact Keyed.get1 S hn hm r' fun y t ry => doneT S ry q
end
open PySem PySem.W PySem.Calls PyProof.Rows PySem.SeqAt
/-- what a call does to the heap -/
structure CStep (σ σ' : Hp) (h h' : Heap) : Prop where
  keep : ∀ b o, b ∉ σ.map (·.1) → h.get? b = some o → h'.get? b = some o
  new : ∀ b ∈ σ'.map (·.1), b ∈ σ.map (·.1) ∨ h.get? b = none
noncomputable def NoE : Addr → Loc → Hp → Prop := fun _ _ _ => False
noncomputable def CallAt (G : Gl) (A : Around) (f : Value) (args : List AV) (σ : Hp) (Q : AV → Hp → Prop) (s : Shared) (vals : List Value) : Prop :=
  codeAny (model G.prog G.w) A (.call f ⟨vals, []⟩) (fun r s' => ∃ v a σ', r = .ok (.ret v) ∧ VR s'.heap a v ∧ HRel G σ' s'.heap ∧ CStep σ σ' s.heap s'.heap ∧ s'.gens = #[] ∧ s'.os = G.os0 ∧ Q a σ') s
/-- a call that comes back, within n frames -/
noncomputable def CallOk (G : Gl) (n : Nat) (f : Value) (args : List AV) (σ : Hp) (Q : AV → Hp → Prop) : Prop :=
  ∀ A, Rm A n → ∀ s vals, HRel G σ s.heap → s.gens = #[] → s.os = G.os0 → 2 ≤ s.heap.objs.size → VRs s.heap args vals → CallAt G A f args σ Q s vals
theorem CallOk.mono {G : Gl} {n k : Nat} {f : Value} {args : List AV} {σ : Hp} {Q Q' : AV → Hp → Prop} (h : CallOk G n f args σ Q) (hk : n ≤ k) (q : ∀ a σ', Q a σ' → Q' a σ') : CallOk G k f args σ Q' :=
  fun A r s vals h1 h2 h3 h4 h5 => codeAny_mono (h A (r.le hk) s vals h1 h2 h3 h4 h5) fun r s' ⟨v, a, σ', a1, a2, a3, a4, a5, a6, a7⟩ => ⟨v, a, σ', a1, a2, a3, a4, a5, a6, q _ _ a7⟩
theorem St.called {X : Fx} {m : Loc} {σ σ' : Hp} {s s' : Shared} (S : St X m σ s) (H : HRel X.G σ' s'.heap) (C : CStep σ σ' s.heap s'.heap) (hg : s'.gens = #[]) (ho : s'.os = X.G.os0) : St X m σ' s' ∧ Step X.L σ σ' s.heap s'.heap := by
  obtain ⟨mr, ⟨o, es, ep, x, y⟩, z⟩ := S.ns
  have hL : X.L ∉ σ'.map (·.1) := fun q => by
    rcases C.new _ q with h | h
    · exact S.noL h
    · rw [x] at h; cases h
  have P : Step X.L σ σ' s.heap s'.heap := ⟨fun b o hb _ e => C.keep b o hb e, C.new, hL⟩
  exact ⟨⟨S.ok, H, S.ns.keep (S.tups P) (fun o e => C.keep _ o S.noL e), hL, S.newL, hg, ho⟩, P⟩
section
variable {X : Fx} {m : Loc} {σ : Hp} {EQ : Addr → Loc → Hp → Prop} {Q : AV → Hp → Prop} {QS : AF → Loc → Hp → Prop}
theorem Cl.fn {a : Addr} {l : List AV} (h : CallOk X.G X.n (.ref a) l σ Q) : Cl X m σ EQ (.ref a) l Q := by
  intro vf vs s S rf rs
  obtain rfl := rf.refE
  refine wpAny_call (codeAny_mono (h X.A S.ok.room s vs S.hr S.gens S.os S.two rs) ?_)
  rintro r s' ⟨v, x, σ', rfl, rv, H, C, hg, ho, q⟩
  have P := S.called H C hg ho
  exact doneH P rv q
/-- a def of the text -/
structure FnOk (G : Gl) (a : Addr) (fd : FuncData) (ps : List Str) (body : List Stmt) : Prop where
  look : ∃ oc od osl, G.K.lookup a = some ⟨oc, od, .func fd, osl⟩
  glob : fd.globals = mainGlobals
  blt : fd.builtins = builtinsNs
  clo : fd.closure = []
  kind : fd.scope.kind = .function
  co : fd.scope.isCoroutine = false
  gen : fd.scope.isGenerator = false
  cell : fd.scope.names.all (fun x => x.2 != .cell) = true
  code : codeIn G.K fd.code fd.qualname = true
  body : fd.body = .stmts body
  pre : (fd.scope.names.map (·.1)).take ps.length = ps
  nd : (fd.scope.names.map (·.1)).Nodup
  loc : ps.all (fun x => fd.scope.names.lookup x == some .local) = true
theorem zip_lookup_none {x : Str} : ∀ {ps : List Str} {vs : List Value}, x ∉ ps → (ps.zip vs).lookup x = none
  | [], _, _ => rfl
  | _ :: _, [], _ => rfl
  | p :: ps, v :: vs, h => by
    simp only [List.mem_cons, not_or] at h
    simp only [List.zip_cons_cons, List.lookup]
    rw [beq_eq_false_iff_ne.mpr h.1]
    exact zip_lookup_none h.2
theorem lookup_key {x : Str} {v : Value} : ∀ {kvs : List (Str × Value)}, kvs.lookup x = some v → x ∈ kvs.map (·.1)
  | [], h => by simp at h
  | (k, w) :: r, h => by
    simp only [List.lookup] at h
    split at h
    · rename_i e; simp [eq_of_beq e]
    · simp only [List.map_cons, List.mem_cons]; exact .inr (lookup_key h)
theorem nodup_rev_lookup {x : Str} : ∀ {kvs : List (Str × Value)}, (kvs.map (·.1)).Nodup → kvs.reverse.lookup x = kvs.lookup x
  | [], _ => rfl
  | (k, v) :: r, h => by
    simp only [List.map_cons, List.nodup_cons] at h
    rw [List.reverse_cons, List.lookup_append, nodup_rev_lookup h.2]
    simp only [List.lookup]
    by_cases e : x = k
    · subst e
      have : r.lookup x = none := by
        cases q : r.lookup x with
        | none => rfl
        | some v' => exact absurd (lookup_key q) h.1
      rw [this]; simp
    · rw [beq_eq_false_iff_ne.mpr e]; simp
theorem zip_vals {h : Heap} {x : Str} : ∀ {ps rest : List Str} {l : List AV} {vs : List Value}, VRs h l vs → l.length = ps.length → (ps ++ rest).Nodup → OVR h (getN (ps ++ rest) (l.map some) x) ((ps.zip vs).lookup x)
  | [], rest, l, vs, r, hl, _ => by
    have : l = [] := by simpa using hl
    subst this
    obtain rfl := r.nilE
    show OVR h (getN rest [] x) none
    unfold getN
    cases rest.findIdx? (· == x) with
    | none => rfl
    | some i => simp; rfl
  | p :: ps, rest, [], vs, r, hl, _ => by simp at hl
  | p :: ps, rest, a :: l, vs, r, hl, nd => by
    obtain ⟨v, vs', rfl, h1, h2⟩ := r.consE
    simp only [List.cons_append, List.nodup_cons] at nd
    have ih := zip_vals (x := x) (rest := rest) h2 (by simpa using hl) nd.2
    simp only [List.zip_cons_cons, List.lookup]
    by_cases e : x = p
    · subst e
      simp only [beq_self_eq_true]
      have : getN (x :: ps ++ rest) (some a :: l.map some) x = some a := by
        unfold getN; simp [List.findIdx?_cons]
      rw [List.map_cons, this]; exact ⟨v, rfl, h1⟩
    · rw [beq_eq_false_iff_ne.mpr e]
      have : getN (p :: ps ++ rest) (some a :: l.map some) x = getN (ps ++ rest) (l.map some) x := by
        unfold getN
        simp only [List.cons_append, List.findIdx?_cons, beq_eq_false_iff_ne.mpr (Ne.symm e)]
        cases (ps ++ rest).findIdx? (· == x) with
        | none => simp
        | some i => simp
      rw [List.map_cons, this]; exact ih
noncomputable def retX (Q : AV → Hp → Prop) : AF → Loc → Hp → Prop
  | .ret v, _, σ => Q v σ
  | .next, _, σ => Q .none σ
  | _, _, _ => False
theorem CallOk.enterB {G : Gl} {n : Nat} {a : Addr} {fd : FuncData} {ps : List Str} {body : List Stmt} {args : List AV} {σ : Hp} {Q : AV → Hp → Prop} (F : FnOk G a fd ps body) (g : GOk G)
    (hb : ∀ h vals s, G.K.In s.heap → VRs h args vals → BindsTo s fd ⟨vals, []⟩ (ps.zip vals)) (hl : args.length = ps.length)
    (h : ∀ L A, Xs ⟨G, fd, L, a, A, n⟩ (execs body (Fx.env ⟨G, fd, L, a, A, n⟩)) (args.map some) σ NoE (retX Q)) : CallOk G (n + 1) (.ref a) args σ Q := by
  intro A hr s vals H hg ho h2 r
  obtain ⟨oc, od, osl, hlook⟩ := F.look
  have XK := g.kin.keeps H.base
  obtain ⟨p, lo, mg, mb, T⟩ := g.top
  refine codeAny_call_def (fd := fd) (body := body) (binds := ps.zip vals) (by have := hr.1; omega) (XK _ _ hlook) rfl (T.nolimit.keeps H.base) (codeRec_of XK F.code) F.body (hb s.heap vals s XK r) ?_ ?_ (fun h₀ hns hk => ?_) F.co F.gen F.kind
  · intro x hx
    have := List.all_eq_true.mp F.cell x hx
    simpa using this
  · intro y hy
    have := List.all_eq_true.mp F.loc y.1 (List.of_mem_zip hy).1
    simpa using this
  · have hrest : ps ++ (fd.scope.names.map (·.1)).drop ps.length = fd.scope.names.map (·.1) := by
      conv => lhs; lhs; rw [← F.pre]
      exact List.take_append_drop ..
    have nL : s.heap.objs.size ∉ σ.map (·.1) := fun q => by
      obtain ⟨o, hp, e⟩ := H.own_of q
      obtain ⟨ob, e⟩ : ∃ ob, s.heap.get? s.heap.objs.size = some ob := by
        cases o with
        | list l => obtain ⟨i, n, x, y⟩ := e; exact ⟨_, x⟩
        | dS l => obtain ⟨i, ⟨o, es, ep, x, y⟩, z⟩ := e; exact ⟨_, x⟩
        | dI l => obtain ⟨i, ⟨o, es, ep, x, y⟩, z⟩ := e; exact ⟨_, x⟩
        | dT l => obtain ⟨i, ⟨o, es, ep, x, y⟩, z⟩ := e; exact ⟨_, x⟩
        | inst C dx => exact ⟨_, e⟩
        | ns n v => obtain ⟨o, es, ep, x, y⟩ := e; exact ⟨_, x⟩
        | rng x y => obtain ⟨t, u, v, q⟩ := e; exact ⟨_, q⟩
      exact absurd (Heap.lt_size e) (Nat.lt_irrefl _)
    have kt := IsTup.keepAll hk
    have S : St ⟨G, fd, s.heap.objs.size, a, A.deeper (callEnv fd s.heap.objs.size a), n⟩ (args.map some) σ { s with heap := h₀, toks := s.toks + (ps.zip vals).length } := by
      refine ⟨⟨g, ?_, F.kind, F.glob, F.blt, F.clo, h2⟩, ⟨fun p hp => (H.own p hp).keep kt (hk p.1), H.nd, fun b o e => hk b o (H.base b o e), H.apart, H.lo⟩, ⟨_, hns, fun x => ?_⟩, nL, ?_, hg, ho⟩
      · obtain ⟨r1, r2, r3⟩ := hr
        exact ⟨by show A.depth + 1 + n < recursionLimit; omega, by show A.units + 3 + 5 * n < cLine; omega, r3⟩
      · show OVR h₀ (getN (fd.scope.names.map (·.1)) (args.map some) x) _
        have nd' : ((ps.zip vals).map (·.1)).Nodup := by
          have e : (ps.zip vals).map (·.1) = ps := by
            have := List.map_fst_zip (l₁ := ps) (l₂ := vals) (by rw [r.length, hl]; omega)
            simpa using this
          rw [e]
          have := F.nd
          rw [← hrest] at this
          exact (List.nodup_append.mp this).1
        rw [nodup_rev_lookup nd', ← hrest]
        exact zip_vals (r.keep kt) hl (by rw [hrest]; exact F.nd)
      · cases q : G.W0.get? s.heap.objs.size with
        | none => rfl
        | some o => exact absurd (Heap.lt_size (H.base _ _ q)) (Nat.lt_irrefl _)
    refine xs_then (h _ _ _ S) (fun f s₁ gg m₁ σ₁ r₁ S₁ P₁ h₁ => ?_) fun e s' he => ?_
    · have C : CStep σ σ₁ s.heap s₁.heap := ⟨fun b o hb e => P₁.keep b o hb (fun q => absurd (Heap.lt_size e) (by rw [q]; exact Nat.lt_irrefl _)) (hk b o e), fun b hb => (P₁.new b hb).imp id fun q => by
        cases e : s.heap.get? b with
        | none => rfl
        | some o =>
          have q : h₀.get? b = none := q
          rw [hk b o e] at q; cases q⟩
      cases gg with
      | ret v =>
        obtain ⟨w, rfl, rv⟩ := r₁
        exact ⟨w, v, σ₁, rfl, rv, S₁.hr, C, S₁.gens, S₁.os, h₁⟩
      | next =>
        obtain rfl := r₁
        exact ⟨.none, .none, σ₁, rfl, .noneI, S₁.hr, C, S₁.gens, S₁.os, h₁⟩
      | brk => exact h₁.elim
      | cont => exact h₁.elim
    · obtain ⟨x, m', σ', _, _, _, h⟩ := he
      exact h.elim
theorem CallOk.enter {G : Gl} {n : Nat} {a : Addr} {fd : FuncData} {ps : List Str} {body : List Stmt} {args : List AV} {σ : Hp} {Q : AV → Hp → Prop} (F : FnOk G a fd ps body) (g : GOk G)
    (hb : ∀ vals : List Value, vals.length = ps.length → bindArgs fd ⟨vals, []⟩ = pure (ps.zip vals)) (hl : args.length = ps.length)
    (h : ∀ L A, Xs ⟨G, fd, L, a, A, n⟩ (execs body (Fx.env ⟨G, fd, L, a, A, n⟩)) (args.map some) σ NoE (retX Q)) : CallOk G (n + 1) (.ref a) args σ Q :=
  .enterB F g (fun h vals s _ r => .of_eq (hb vals (by rw [r.length, hl]))) hl h
end
open PySem PySem.W PySem.Calls PyProof.Rows PySem.SeqAt
/-- a list, of our own or of the start -/
noncomputable def LAt (G : Gl) (σ : Hp) (x : Addr) (l : List AV) : Prop := ∀ h, HRel G σ h → ∃ items, h.IsList x (List.toArray items) ∧ VRs h l items
theorem LAt.own {G : Gl} {σ : Hp} {x : Addr} {l : List AV} (hm : (x, .list l) ∈ σ) : LAt G σ x l := fun h H => by
  obtain ⟨is, ni, hi, z⟩ := H.own _ hm
  exact ⟨is, ⟨_, hi, rfl, _, rfl⟩, z⟩
theorem LAt.base {G : Gl} {σ : Hp} {x : Addr} {l : List AV} {items : List Value} (hl : G.W0.IsList x items.toArray) (z : VRs G.W0 l items) : LAt G σ x l := fun h H => by
  obtain ⟨o, ho, r⟩ := hl
  exact ⟨items, ⟨o, H.base _ _ ho, r⟩, z.keep (IsTup.keepAll H.base)⟩
section
variable {X : Fx} {m : Loc} {σ : Hp} {EQ : Addr → Loc → Hp → Prop} {Q : AV → Hp → Prop} {QS : AF → Loc → Hp → Prop}
theorem slicePick_len {items : Array Value} {lo hi st : Option Int} : (slicePick items lo hi st).size ≤ items.size := slicePick_size_le items lo hi st
theorem sliceAt {s : Shared} {value : Expr} {lo up : Option Expr} {p : Pos} {x : Addr} {l l' : List AV} {items : List Value} {vl vu : Value} {a b : Option Int} (S : St X m σ s) (hl : s.heap.IsList x items.toArray) (z : VRs s.heap l items) (hz : l.length ≤ 100000)
    (pl : IsPart vl a) (pu : IsPart vu b) (h' : VRs s.heap l' (slicePick items.toArray a b none).toList) (q : ∀ y, Q (.ref y) ((y, .list l') :: σ)) :
    wpAny X.M X.A (subscriptTail value (.Slice lo up none p) (.ref x) (.ref s.heap.objs.size)) (fun v s' => ∃ a σ', VR s'.heap a v ∧ St X m σ' s' ∧ Step X.L σ σ' s.heap s'.heap ∧ Q a σ') (EP X σ EQ s)
      { s with heap := s.heap.push { cls := .type "slice", data := .fields #[vl, vu, .none] } } := by
  have hl' : (s.heap.push { cls := .type "slice", data := .fields #[vl, vu, .none] }).IsList x items.toArray := hl.push _
  refine tail_any (s := { s with heap := s.heap.push { cls := .type "slice", data := .fields #[vl, vu, .none] } }) (Heap.IsList.typeIs (s := { s with heap := s.heap.push { cls := .type "slice", data := .fields #[vl, vu, .none] } }) hl') list_getitem_lookup
    (wpAny_getItem_list_slice hl' (Heap.IsSliceOf.new ..) pl pu .none (by simp) ?_ (by simp [z.length]; have := sizeLine_big; omega)) (ops := [.ref s.heap.objs.size, .ref x]) rfl
  have k : ∀ d o, s.heap.get? d = some o → ((s.heap.push { cls := .type "slice", data := .fields #[vl, vu, .none] }).push { cls := .type "list", data := .seq (slicePick items.toArray a b none) }).get? d = some o := fun d o e => Heap.get?_push_of_some _ (Heap.get?_push_of_some _ e)
  have P := S.alloc (tk := s.toks) (a := s.heap.objs.size + 1) (ao := .list l') k (Heap.get?_none_of_le (Nat.le_succ _)) (Nat.le_succ_of_le S.two) ⟨(slicePick items.toArray a b none).toList, 0, by
    have := Heap.get?_push_size (s.heap.push { cls := .type "slice", data := .fields #[vl, vu, .none] }) (o := { cls := .type "list", data := .seq (slicePick items.toArray a b none) }) rfl
    rw [Heap.size_push] at this
    rw [this, listO, Array.toArray_toList], h'.keep (IsTup.keepAll k)⟩
  refine ⟨.ref (s.heap.objs.size + 1), (s.heap.objs.size + 1, .list l') :: σ, ?_, P.1, P.2, q _⟩
  show VR _ (.ref (s.heap.objs.size + 1)) (.ref (s.heap.push { cls := .type "slice", data := .fields #[vl, vu, .none] }).objs.size)
  rw [Heap.size_push]; exact .refI
theorem Ev.sliceTo {value e : Expr} {p pos : Pos}
    (h : Ev X (eval value X.env) m σ EQ fun r σ₁ => Ev X (eval e X.env) m σ₁ EQ fun b σ₂ => ∃ x l k, r = .ref x ∧ b = .int k ∧ 0 ≤ k ∧ LAt X.G σ₂ x l ∧ l.length ≤ 100000 ∧ ∀ y, Q (.ref y) ((y, .list (l.take k.toNat)) :: σ₂)) :
    Ev X (eval (.Subscript value (.Slice none (some e) none p) pos) X.env) m σ EQ Q := by
  intro s S
  refine Subscript_ (ev_then (h s S) (fun v s₁ a σ₁ r₁ S₁ P₁ h₁ => ?_) fun _ _ e => e)
  refine wpAny_Slice ?_
  rw [evalPart_none, evalPart_some]
  refine wpAny_pure (ev_then (h₁ s₁ S₁) (fun w s₂ b σ₂ r₂ S₂ P₂ h₂ => wpAny_pure ?_) fun _ _ e => e.trans P₁)
  obtain ⟨x, l, k, rfl, rfl, h0, hl, hz, q⟩ := h₂
  obtain ⟨t, rfl⟩ := r₂.intE
  obtain rfl := r₁.refE
  obtain ⟨items, il, z⟩ := hl _ S₂.hr
  obtain ⟨n, rfl⟩ : ∃ n : Nat, k = n := ⟨k.toNat, by omega⟩
  refine wpAny_mono (sliceAt (Q := Q) S₂ il z hz .none (.int n t) (l' := l.take (n : Int).toNat) (by rw [slicePick_upto']; simpa using z.take n) q) (fun v s' ⟨a, σ', h1, h2, h3, h4⟩ => ⟨a, σ', h1, h2, (P₁.trans P₂).trans h3, h4⟩) fun e s' h => h.trans (P₁.trans P₂)
theorem Ev.sliceAll {value : Expr} {p pos : Pos}
    (h : Ev X (eval value X.env) m σ EQ fun r σ₁ => ∃ x l, r = .ref x ∧ LAt X.G σ₁ x l ∧ l.length ≤ 100000 ∧ ∀ y, Q (.ref y) ((y, .list l) :: σ₁)) :
    Ev X (eval (.Subscript value (.Slice none none none p) pos) X.env) m σ EQ Q := by
  intro s S
  refine Subscript_ (ev_then (h s S) (fun v s₁ a σ₁ r₁ S₁ P₁ h₁ => ?_) fun _ _ e => e)
  refine wpAny_Slice ?_
  rw [evalPart_none]
  refine wpAny_pure (wpAny_pure (wpAny_pure ?_))
  obtain ⟨x, l, rfl, hl, hz, q⟩ := h₁
  obtain rfl := r₁.refE
  obtain ⟨items, il, z⟩ := hl _ S₁.hr
  refine wpAny_mono (sliceAt (Q := Q) S₁ il z hz .none .none (l' := l) (by rw [slicePick_all]; simpa using z) q) (fun v s' ⟨a, σ', h1, h2, h3, h4⟩ => ⟨a, σ', h1, h2, P₁.trans h3, h4⟩) fun e s' h => h.trans P₁
/-! lists joined, repeated; an empty dict -/
theorem Op2.cat {x y : Addr} {l r : List AV} (hx : (x, .list l) ∈ σ) (hy : (y, .list r) ∈ σ) (hz : l.length + r.length ≤ 100000) (q : ∀ z, Q (.ref z) ((z, .list (l ++ r)) :: σ)) : Op2 X m σ EQ (binaryOp .Add) (.ref x) (.ref y) Q := by
  intro _ _ s S r₁ r₂
  obtain rfl := r₁.refE; obtain rfl := r₂.refE
  obtain ⟨is, ni, hi, z⟩ := S.hr.own _ hx
  obtain ⟨js, nj, hj, z'⟩ := S.hr.own _ hy
  refine P.add_list (items := is.toArray) (items2 := js.toArray) hi hj ?_ (by simp [z.length, z'.length]; have := sizeLine_big; omega)
  have k : ∀ d o, s.heap.get? d = some o → (s.heap.push { cls := .type "list", data := .seq (is.toArray ++ js.toArray) }).get? d = some o := fun d o e => Heap.get?_push_of_some _ e
  have P := S.alloc (tk := s.toks) (a := s.heap.objs.size) (ao := .list (l ++ r)) k (Heap.get?_none_of_le (Nat.le_refl _)) S.two ⟨is ++ js, 0, by
    rw [Heap.get?_push_size _ rfl, listO]; simp, (z.append z').keep (IsTup.keepAll k)⟩
  exact doneH P .refI (q _)
theorem VRs.rep {h : Heap} {a : AV} {v : Value} (r : VR h a v) : ∀ n, VRs h (List.replicate n a) (List.replicate n v)
  | 0 => .nil
  | n + 1 => .cons r (VRs.rep r n)
theorem foldl_rep (v : Value) : ∀ (n : Nat) (acc : Array Value), (List.foldl (fun x1 x2 => x1 ++ x2) acc (List.replicate n #[v])).toList = acc.toList ++ List.replicate n v
  | 0, acc => by simp
  | n + 1, acc => by
    rw [List.replicate_succ, List.foldl_cons, foldl_rep v n]
    simp [List.replicate_succ]
/-- [a] * k -/
theorem Op2.rep {x : Addr} {a : AV} {k : Int} (hx : (x, .list [a]) ∈ σ) (h0 : 0 ≤ k) (hk : k ≤ 100000) (q : ∀ z, Q (.ref z) ((z, .list (List.replicate k.toNat a)) :: σ)) : Op2 X m σ EQ (binaryOp .Mult) (.ref x) (.int k) Q := by
  intro _ _ s S r₁ r₂
  obtain rfl := r₁.refE
  obtain ⟨u, rfl⟩ := r₂.intE
  obtain ⟨is, ni, hi, z⟩ := S.hr.own _ hx
  obtain ⟨v, r, rfl, rv, rn⟩ := z.consE
  obtain rfl := rn.nilE
  have hsz : sizeLine = 2 ^ 24 := rfl
  refine wpAny_binaryOp_repeat_ref (T := "list") (U := "int") (by decide) ⟨_, hi, rfl⟩ (fun s' => typeIs_int s' k u) noFill_list_mul F.fills_int_mul F.slot_int_rmul repeat_list F.slot_int_index.lookup
    (call_meets F.slot_int_rmul (typeIs_int s k u) F.entry_int_rmul (F.args_int_rmul_2 _ _) (int___rmul___int_list k u x #[v] ni)
      ⟨hi, rfl, ⟨_, hi, rfl⟩, call_meets F.slot_list_mul ⟨_, hi, rfl⟩ F.entry_list_mul (F.args_list_mul_2 _ _)
        (AutoListH.list___mul___list_int_3 x #[v] ni k u (by simp [Builtin.List.listFitsIndex]; omega) (by simp; omega) (by simp [Builtin.List.listTooLong, sizeLine]; omega))
        ⟨hi, ?_⟩⟩)
  have e : (List.foldl (fun x1 x2 => x1 ++ x2) #[] (List.replicate (if (#[v] : Array Value).isEmpty = true then 0 else k.toNat) #[v])) = (List.replicate k.toNat v).toArray := by
    apply Array.toList_inj.mp
    rw [foldl_rep]; simp
  rw [e]
  have kp : ∀ d o, s.heap.get? d = some o → (s.heap.push { cls := .type "list", data := .seq (List.replicate k.toNat v).toArray }).get? d = some o := fun d o e => Heap.get?_push_of_some _ e
  have P := S.alloc (tk := s.toks) (a := s.heap.objs.size) (ao := .list (List.replicate k.toNat a)) kp (Heap.get?_none_of_le (Nat.le_refl _)) S.two ⟨List.replicate k.toNat v, 0, by
    rw [Heap.get?_push_size _ rfl, listO], (VRs.rep rv _).keep (IsTup.keepAll kp)⟩
  exact doneH P .refI (q _)
theorem Ev.dict0 {κ : Type} [DecidableEq κ] [Keyed κ] {pos : Pos} (hn : ∀ (G : Gl) (h : Heap), ORel G (h.push { cls := .type "dict", data := .dict #[] }) h.objs.size (Keyed.ao (κ := κ) [])) (q : ∀ z, Q (.ref z) ((z, Keyed.ao (κ := κ) []) :: σ)) : Ev X (eval (.Dict [] [] pos) X.env) m σ EQ Q := by
  intro s S
  refine wpAny_Dict_empty ?_
  have P := S.alloc (tk := s.toks) (a := s.heap.objs.size) (ao := Keyed.ao (κ := κ) []) (h' := s.heap.push { cls := .type "dict", data := .dict #[] }) (fun d o e => Heap.get?_push_of_some _ e) (Heap.get?_none_of_le (Nat.le_refl _)) S.two (hn _ _)
  exact doneH P .refI (q _)
theorem Ev.dictS {pos : Pos} (q : ∀ z, Q (.ref z) ((z, .dS []) :: σ)) : Ev X (eval (.Dict [] [] pos) X.env) m σ EQ Q := Ev.dict0 (κ := Str) (fun G h => ⟨[], Heap.DictOf.new h, .nil⟩) q
theorem Ev.dictI {pos : Pos} (q : ∀ z, Q (.ref z) ((z, .dI []) :: σ)) : Ev X (eval (.Dict [] [] pos) X.env) m σ EQ Q := Ev.dict0 (κ := Int) (fun G h => ⟨[], Heap.DictOf.new h, .nil⟩) q
theorem Ev.dictT {pos : Pos} (q : ∀ z, Q (.ref z) ((z, .dT []) :: σ)) : Ev X (eval (.Dict [] [] pos) X.env) m σ EQ Q := Ev.dict0 (κ := List Int) (fun G h => ⟨[], Heap.DictOfH.new h, .nil⟩) q
/-! and, or as values: of bools -/
noncomputable def andV (X : Fx) (m : Loc) (EQ : Addr → Loc → Hp → Prop) (rest : Sem Value) (Q : AV → Hp → Prop) : AV → Hp → Prop
  | .bool true, σ => Ev X rest m σ EQ Q
  | .bool false, σ => Q (.bool false) σ
  | _, _ => False
noncomputable def orV (X : Fx) (m : Loc) (EQ : Addr → Loc → Hp → Prop) (rest : Sem Value) (Q : AV → Hp → Prop) : AV → Hp → Prop
  | .bool false, σ => Ev X rest m σ EQ Q
  | .bool true, σ => Q (.bool true) σ
  | _, _ => False
theorem Ev.bone {op e pos} (h : Ev X (eval e X.env) m σ EQ Q) : Ev X (eval (.BoolOp op [e] pos) X.env) m σ EQ Q := fun s S => BoolOp_one (h s S)
theorem Ev.and {e₁ e₂ rest pos} (h : Ev X (eval e₁ X.env) m σ EQ (andV X m EQ (eval (.BoolOp .And (e₂ :: rest) pos) X.env) Q)) : Ev X (eval (.BoolOp .And (e₁ :: e₂ :: rest) pos) X.env) m σ EQ Q := by
  intro s S
  refine BoolOp_and (ev_then (h s S) (fun v s₁ a σ₁ r₁ S₁ P₁ h₁ => ?_) fun _ _ e => e)
  unfold andV at h₁
  split at h₁
  · obtain rfl := r₁.boolE
    exact wpAny_truthy_bool (ev_from P₁ (h₁ s₁ S₁))
  · obtain rfl := r₁.boolE
    exact wpAny_truthy_bool ⟨_, _, r₁, S₁, P₁, h₁⟩
  · exact h₁.elim
theorem Ev.or {e₁ e₂ rest pos} (h : Ev X (eval e₁ X.env) m σ EQ (orV X m EQ (eval (.BoolOp .Or (e₂ :: rest) pos) X.env) Q)) : Ev X (eval (.BoolOp .Or (e₁ :: e₂ :: rest) pos) X.env) m σ EQ Q := by
  intro s S
  refine BoolOp_or (ev_then (h s S) (fun v s₁ a σ₁ r₁ S₁ P₁ h₁ => ?_) fun _ _ e => e)
  unfold orV at h₁
  split at h₁
  · obtain rfl := r₁.boolE
    exact wpAny_truthy_bool (ev_from P₁ (h₁ s₁ S₁))
  · obtain rfl := r₁.boolE
    exact wpAny_truthy_bool ⟨_, _, r₁, S₁, P₁, h₁⟩
  · exact h₁.elim
theorem Ev.neg {x pos} (h : Ev X (eval x X.env) m σ EQ fun a σ₁ => ∃ i, a = .int i ∧ Q (.int (-i)) σ₁) : Ev X (eval (.UnaryOp .USub x pos) X.env) m σ EQ Q := by
  intro s S
  refine UnaryOp_ (ev_then (h s S) (fun v s₁ a σ₁ r₁ S₁ P₁ h₁ => ?_) fun _ _ e => e)
  obtain ⟨i, rfl, q⟩ := h₁
  obtain ⟨t, rfl⟩ := r₁.intE
  exact PyProof.Rows.neg_int ⟨_, _, .intI, S₁.toks _, P₁, q⟩
end
/-! unpacking -/
/-- names one after the other -/
inductive UnpN (X : Fx) : List Expr → List AV → Loc → Loc → Prop
  | nil {m} : UnpN X [] [] m m
  | cons {x p i a es l m m' m''} : Lc X.fd x i → SetAt m i a m' → UnpN X es l m' m'' → UnpN X (.Name x p :: es) (a :: l) m m''
section
variable {X : Fx} {m : Loc} {σ : Hp} {EQ : Addr → Loc → Hp → Prop} {Q : AV → Hp → Prop} {QS : AF → Loc → Hp → Prop}
theorem UnpN.len {es : List Expr} {l : List AV} {m m' : Loc} (u : UnpN X es l m m') : es.length = l.length := by
  induction u with
  | nil => rfl
  | cons _ _ _ ih => simp [ih]
theorem UnpN.noStar {env : Env} {es : List Expr} {l : List AV} {m m' : Loc} (u : UnpN X es l m m') : assignEach es env = es.map fun t => (false, assign t env) := by
  induction u with
  | nil => rfl
  | cons _ _ _ ih => show (false, _) :: assignEach _ env = _; rw [ih]; rfl
theorem assign_in_order {es : List Expr} {l : List AV} {m' : Loc} : ∀ {m : Loc} {s : Shared} {vs : List Value} {R : Unit → Shared → Prop} {E : Value → Shared → Prop}, UnpN X es l m m' → St X m σ s → VRs s.heap l vs →
    (∀ s', St X m' σ s' → Step X.L σ σ s.heap s'.heap → R () s') → wpAny X.M X.A (assignInOrder (es.map fun t => assign t X.env) vs) R E s := by
  intro m s vs R E u
  induction u generalizing s vs with
  | nil => intro S r q; obtain rfl := r.nilE; exact wpAny_pure (q s S (.refl S.noL _))
  | @cons x p i a es l m m₁ m₂ lc g u ih =>
    intro S r q
    obtain ⟨v, vs', rfl, h1, h2⟩ := r.consE
    show wpAny _ _ (do holding vs' (assign (.Name x p) X.env v); assignInOrder (es.map fun t => assign t X.env) vs') _ _ _
    refine wpAny_bind (wpAny_holding (PyProof.Rows.assign_Name (store_local S lc g h1 fun s' S' P' => ?_)))
    exact ih S' (S.vrs P' h2) fun s'' S'' P'' => q s'' S'' (P'.trans P'')
noncomputable def notTup : Expr → Bool
  | .Tuple .. => false
  | _ => true
theorem swapped_none {elts : List Expr} {k tpos} {value : Expr} {env : Env} (h : notTup value = true) : swappedStores [.Tuple elts k tpos] value env = pure none := by
  cases value <;> first | rfl | simp [notTup] at h
theorem Xs.unpack {elts : List Expr} {k : Nat} {tpos pos : Pos} {value : Expr} (hc : noComp value = true) (ht : notTup value = true)
    (h : Ev X (eval value X.env) m σ EQ fun a σ₁ => ∃ l m', a = .tup l ∧ UnpN X elts l m m' ∧ QS .next m' σ₁) : Xs X (exec (.Assign [.Tuple elts k tpos] value pos) X.env) m σ EQ QS := by
  intro s S
  refine PyProof.Rows.Assign_Tuple (ev_then (h s S) (fun v s₁ a σ₁ r₁ S₁ P₁ h₁ => ?_) fun _ _ e => e) (by show swapsWith value (some (.Tuple elts k tpos)) pos.line X.env = _; exact swaps_no hc) (swapped_none ht)
  obtain ⟨l, m', rfl, u, q⟩ := h₁
  obtain ⟨t, items, rfl, tt, z⟩ := r₁.tupE
  refine assign_Tuple_tuple (x1 := k) S₁.handled tt (by rw [u.noStar]; simp [u.len, z.length]) (by rw [u.noStar]; simp) fun h' he => ?_
  have keep : ∀ b o, s₁.heap.get? b = some o → h'.get? b = some o := fun b o e => he b o (fun q => absurd (Heap.lt_size e) (by rw [q]; exact Nat.lt_irrefl _)) e
  have Pg := S₁.grow (tk := s₁.toks) keep
  rw [u.noStar, List.map_map]
  exact assign_in_order u Pg.1 (z.keep (IsTup.keepAll keep)) fun s' S' P' => ⟨.next, m', σ₁, rfl, S', (P₁.trans Pg.2).trans P', q⟩
/-! x -= e, x //= e -/
theorem Xs.aug {x : Str} {i : Nat} {a : AV} {op : Operator} {value : Expr} {pos' pos : Pos} (l : Lc X.fd x i) (g : GetAt m i a)
    (h : Ev X (eval value X.env) m σ EQ fun b σ₁ => Op2 X m σ₁ EQ (inplaceOp op) a b fun c σ₂ => ∃ m', SetAt m i c m' ∧ QS .next m' σ₂) : Xs X (exec (.AugAssign (.Name x pos') op value pos) X.env) m σ EQ QS := by
  intro s S
  obtain ⟨mr, hn, hm⟩ := S.ns
  have hx := hm x
  rw [show getN X.names m x = some a from getN_get l.ix g] at hx
  obtain ⟨v, hv, r⟩ := hx
  refine wpAny_AugAssign_Name (wpAny_loadName_local S.ok.kind l.kind hn hv ?_)
  refine ev_then (h s S) (fun w s₁ b σ₁ r₁ S₁ P₁ h₁ => ?_) fun _ _ e => e
  refine ev_then (h₁ v w s₁ S₁ (S.vr P₁ r) r₁) (fun z s₂ c σ₂ r₂ S₂ P₂ h₂ => ?_) fun _ _ e => e.trans P₁
  obtain ⟨m', gs, q⟩ := h₂
  exact store_local S₂ l gs r₂ fun s' S' P' => ⟨.next, m', σ₂, rfl, S', (P₁.trans P₂).trans P', q⟩
theorem Op2.isub {a b : Int} (q : Q (.int (a - b)) σ) : Op2 X m σ EQ (inplaceOp .Sub) (.int a) (.int b) Q := by
  intro _ _ s S r₁ r₂; obtain ⟨t, rfl⟩ := r₁.intE; obtain ⟨u, rfl⟩ := r₂.intE; exact PyProof.Rows.isub_int (doneT S .intI q)
theorem Op2.ifdiv {a b : Int} (hb : b ≠ 0) (hp : Builtin.divisionGoesByPylong a b = false) (q : Q (.int (a.fdiv b)) σ) : Op2 X m σ EQ (inplaceOp .FloorDiv) (.int a) (.int b) Q := by
  intro _ _ s S r₁ r₂; obtain ⟨t, rfl⟩ := r₁.intE; obtain ⟨u, rfl⟩ := r₂.intE; exact PyProof.Rows.ifloordiv_int hb (doneT S .intI q) (.inl hp)
/-- min of a list of ints -/
theorem ints_are {h : Heap} : ∀ {ns : List Int} {vs : List Value}, VRs h (ns.map AV.int) vs → IntsAre vs ns
  | [], _, e => by obtain rfl := e.nilE; exact .nil
  | n :: ns, _, e => by
    obtain ⟨v, r, rfl, h1, h2⟩ := e.consE
    obtain ⟨t, rfl⟩ := h1.intE
    exact .cons n t (ints_are h2)
theorem Cl.min {x : Addr} {ns : List Int} (hm : (x, .list (ns.map .int)) ∈ σ) (hne : 0 < ns.length) (q : ∀ M, M ∈ ns → (∀ a ∈ ns, M ≤ a) → Q (.int M) σ) : Cl X m σ EQ (.oth (.builtin "min")) [.ref x] Q := .one fun v s S r => by
  obtain rfl := r.refE
  obtain ⟨is, ni, hi, z⟩ := S.hr.own _ hm
  have hi2 := ints_are z
  obtain ⟨xs, e⟩ := hi2.allInts.items
  have hns : ns = xs.toList.map (·.1) := by
    rw [← hi2.numsOf, ← nums_intItems, ← e]
  have hsz : 0 < xs.size := by
    have h3 := hne; rw [hns, List.length_map, Array.length_toList] at h3; exact h3
  have hl : s.heap.IsList x is.toArray := ⟨_, hi, rfl, _, rfl⟩
  rw [e] at hl
  refine min_intList S.handled hl hsz fun v h' tk hv hk => ?_
  obtain ⟨t, rfl⟩ := intItems_at hv
  obtain ⟨h1, h2⟩ := argBest_lt (numAt xs) (xs.size - 1)
  have P := S.grow (tk := tk) hk
  refine doneH P .intI (q _ ?_ fun a ha => ?_)
  · rw [hns, numAt_eq]; exact getD_mem (by rw [List.length_map, Array.length_toList]; omega)
  · rw [hns] at ha
    obtain ⟨j, hj, rfl⟩ := mem_getD ha
    rw [List.length_map, Array.length_toList] at hj
    rw [← numAt_eq]; exact h2 j (by omega)
end
open PySem PySem.W PySem.Calls PyProof.Rows PySem.SeqAt
theorem no_EP {X : Fx} {σ : Hp} {s : Shared} {e : Value} {s' : Shared} {P : Prop} (h : EP X σ NoE s e s') : P := by
  obtain ⟨_, _, _, _, _, _, h⟩ := h
  exact h.elim
section
variable {X : Fx} {m : Loc} {σ : Hp} {EQ : Addr → Loc → Hp → Prop} {Q : AV → Hp → Prop} {QS : AF → Loc → Hp → Prop}
/-- something changes that is nobody's here -/
theorem St.alter {s : Shared} (S : St X m σ s) {it : Addr} {h' : Heap} {tk : Nat} (k : ∀ b o, b ≠ it → s.heap.get? b = some o → h'.get? b = some o) (n1 : it ∉ σ.map (·.1)) (n2 : it ≠ X.L) (n3 : X.G.W0.get? it = none)
    (nt : ∀ items, ¬ IsTup s.heap it items) : St X m σ { s with heap := h', toks := tk } := by
  have kt := IsTup.keepBut k nt
  refine ⟨S.ok, ⟨fun p hp => (S.hr.own p hp).keep kt (fun x => k _ x fun e => n1 (e ▸ List.mem_map_of_mem hp)), S.hr.nd, fun b o e => k b o (fun q => ?_) (S.hr.base b o e), S.hr.apart, S.hr.lo⟩, S.ns.keep kt (fun x => k _ x n2.symm), S.noL, S.newL, S.gens, S.os⟩
  rw [q, n3] at e; cases e
/-- what a turn may end with -/
noncomputable def turnX (I : Nat → Loc → Hp → Prop) (i : Nat) (QS : AF → Loc → Hp → Prop) : AF → Loc → Hp → Prop
  | .next, m, σ => I (i + 1) m σ
  | .cont, m, σ => I (i + 1) m σ
  | .brk, m, σ => QS .next m σ
  | .ret a, m, σ => QS (.ret a) m σ
theorem for_core {x : Str} {j : Nat} {px : Pos} {body : List Stmt} {s₀ s : Shared} {it : Addr} {N : Nat} {vals : Nat → AV} {IS : Nat → Heap → Prop} {I : Nat → Loc → Hp → Prop} {E : Value → Shared → Prop}
    (S : St X m σ s) (P₀ : Step X.L σ σ s₀.heap s.heap) (lc : Lc X.fd x j) (hnew : s₀.heap.get? it = none) (n1 : it ∉ σ.map (·.1)) (n2 : it ≠ X.L) (n3 : X.G.W0.get? it = none)
    (hkeep : ∀ i h h', IS i h → (∀ o, h.get? it = some o → h'.get? it = some o) → (∀ a items, IsTup h a items → IsTup h' a items) → IS i h') (hex : ∀ i h, IS i h → ∃ o, h.get? it = some o ∧ o.cls ≠ .type "tuple")
    (hnext : ∀ i m σ s, i < N → St X m σ s → IS i s.heap → I i m σ → ∀ R E, (∀ v h' tk, IS (i + 1) h' → Heap.SameBut it s.heap h' → VR s.heap (vals i) v → R (some v) { s with heap := h', toks := tk }) → wpAny X.M X.A (pyNext (.ref it)) R E s)
    (hend : ∀ m σ s, St X m σ s → IS N s.heap → I N m σ → ∀ R E, (∀ h', Heap.ExtBut it s.heap h' → R none { s with heap := h' }) → wpAny X.M X.A (pyNext (.ref it)) R E s)
    (hturn : ∀ i m σ, i < N → I i m σ → ∃ m₁, SetAt m j (vals i) m₁ ∧ Xs X (execs body X.env) m₁ σ NoE (turnX I i QS))
    (hfin : ∀ m σ, I N m σ → QS .next m σ) (h0 : I 0 m σ) (hi0 : IS 0 s.heap)
    (R : Result → Shared → Prop) (hR : ∀ g f m' σ' s', FR s'.heap g f → St X m' σ' s' → Step X.L σ σ' s₀.heap s'.heap → QS g m' σ' → R (.ok f) s') :
    codeAny X.M X.A (.forLoop (.Name x px) (.ref it) body [] X.env) R s := by
  refine codeAny_forLoop (prog := X.G.prog) (w := X.G.w) (fun n s' => ∃ i m' σ', n = N - i ∧ i ≤ N ∧ St X m' σ' s' ∧ Step X.L σ σ' s₀.heap s'.heap ∧ it ∉ σ'.map (·.1) ∧ IS i s'.heap ∧ I i m' σ') ?_ (N - 0) ⟨0, m, σ, rfl, Nat.zero_le _, S, P₀, n1, hi0, h0⟩
  rintro n s' ⟨i, m', σ', rfl, hi, S', P', n1', hI, hJ⟩
  obtain ⟨oi, hoi, hcl⟩ := hex i _ hI
  have nt : ∀ items, ¬ IsTup s'.heap it items := by
    rintro items ⟨o, ho, hc, _⟩
    rw [hoi] at ho; cases ho; exact hcl hc
  by_cases hlt : i < N
  · refine hnext i m' σ' s' hlt S' hI hJ _ _ fun v h' tk hI' hs hv => ?_
    have k : ∀ b o, b ≠ it → s'.heap.get? b = some o → h'.get? b = some o := fun b o hb e => (hs.2 b hb).trans e
    have S₁ := S'.alter (tk := tk) k n1' n2 n3 nt
    have hv' := hv.keep (IsTup.keepBut k nt)
    obtain ⟨m₁, gs, hb⟩ := hturn i m' σ' hlt hJ
    refine PyProof.Rows.assign_Name (store_local S₁ lc gs hv' fun s₂ S₂ P₂ => ?_)
    have P₁ : Step X.L σ σ' s₀.heap h' := ⟨fun b o hb hL e => k b o (fun q => by rw [q, hnew] at e; cases e) (P'.keep b o hb hL e), P'.new, P'.noL⟩
    refine wpAny_mono (hb s₂ S₂) (fun f s₃ ⟨g, m₃, σ₃, r₃, S₃, P₃, q⟩ => ?_) fun e s₃ he => no_EP he
    have P₄ := (P₁.trans P₂).trans P₃
    have hit2 : s₂.heap.get? it = some _ := P₂.keep it _ n1' n2 (hex _ _ hI').choose_spec.1
    have again : ∀ m₃ σ₃, St X m₃ σ₃ s₃ → Step X.L σ' σ₃ s₂.heap s₃.heap → Step X.L σ σ₃ s₀.heap s₃.heap → I (i + 1) m₃ σ₃ → ∃ k, k < N - i ∧ ∃ i m' σ', k = N - i ∧ i ≤ N ∧ St X m' σ' s₃ ∧ Step X.L σ σ' s₀.heap s₃.heap ∧ it ∉ σ'.map (·.1) ∧ IS i s₃.heap ∧ I i m' σ' := by
      intro m₃ σ₃ S₃ P₃ P₄ q
      refine ⟨N - (i + 1), by omega, i + 1, m₃, σ₃, rfl, by omega, S₃, P₄, fun h => ?_, ?_, q⟩
      · rcases P₃.new _ h with h | h
        · exact n1' h
        · rw [hit2] at h; cases h
      · exact hkeep _ _ _ hI' (fun o e => P₃.keep it o n1' n2 (P₂.keep it o n1' n2 e)) fun a items t => S₂.tups P₃ a items (S₁.tups P₂ a items t)
    cases g with
    | next => obtain rfl := r₃; exact again m₃ σ₃ S₃ P₃ P₄ q
    | cont => obtain rfl := r₃; exact again m₃ σ₃ S₃ P₃ P₄ q
    | brk => obtain rfl := r₃; exact hR .next .next m₃ σ₃ s₃ rfl S₃ P₄ q
    | ret a => obtain ⟨w, rfl, rw⟩ := r₃; exact hR (.ret a) (.ret w) m₃ σ₃ s₃ ⟨w, rfl, rw⟩ S₃ P₄ q
  · have : i = N := by omega
    subst this
    refine hend m' σ' s' S' hI hJ _ _ fun h' he => wpAny_execs_nil ?_
    have k : ∀ b o, b ≠ it → s'.heap.get? b = some o → h'.get? b = some o := fun b o hb e => he b o hb e
    have S₁ := S'.alter (tk := s'.toks) k n1' n2 n3 nt
    have P₁ : Step X.L σ σ' s₀.heap h' := ⟨fun b o hb hL e => k b o (fun q => by rw [q, hnew] at e; cases e) (P'.keep b o hb hL e), P'.new, P'.noL⟩
    exact hR .next .next m' σ' _ rfl S₁ P₁ (hfin _ _ hJ)
/-- what is gone through -/
noncomputable def plainIter : Expr → Bool
  | .Set .. | .SetComp .. => false
  | _ => true
theorem Xs.forRange {x : Str} {j : Nat} {px pos : Pos} {iter : Expr} {body : List Stmt} (lc : Lc X.fd x j) (hs : ∀ x, foldedSetIterable iter X.env x = pure x)
    (h : Ev X (eval iter X.env) m σ EQ fun r σ₁ => ∃ y a b σ₂, r = .ref y ∧ σ₁ = (y, .rng a b) :: σ₂ ∧ -(2 ^ 60) ≤ a ∧ a ≤ 2 ^ 60 ∧ -(2 ^ 60) ≤ b ∧ b ≤ 2 ^ 60 ∧ ∃ I : Nat → Loc → Hp → Prop, I 0 m σ₂ ∧
      (∀ (i : Nat) m σ, (i : Int) < b - a → I i m σ → ∃ m₁, SetAt m j (.int (a + i)) m₁ ∧ Xs X (execs body X.env) m₁ σ NoE (turnX I i QS)) ∧ (∀ m σ, I (b - a).toNat m σ → QS .next m σ)) :
    Xs X (exec (.For (.Name x px) iter body [] pos) X.env) m σ EQ QS := by
  intro s S
  refine wpAny_For (ev_then (h s S) (fun v s₁ r σ₁ r₁ S₁ P₁ h₁ => ?_) fun _ _ e => e) hs
  obtain ⟨y, a, b, σ₂, rfl, rfl, ha1, ha2, hb1, hb2, I, h0, hturn, hfin⟩ := h₁
  obtain rfl := r₁.refE
  obtain ⟨t, u, w, hr⟩ := S₁.hr.own (y, .rng a b) (.head _)
  have hr : IsRange s₁.heap y a b 1 t u w := hr
  have sz : Builtin.Range.rangeSize a b 1 = max 0 (b - a) := by
    unfold Builtin.Range.rangeSize; simp; split <;> omega
  refine wpAny_pyIter_range hr ?_ ?_
  · unfold Builtin.Range.small Builtin.Range.rangeFitsLong; rw [sz]; simp; omega
  have le : Le σ₂ ((y, .rng a b) :: σ₂) := ⟨[(y, .rng a b)], by simpa using (List.perm_append_singleton (y, AO.rng a b) σ₂).symm⟩
  have S₂ := S₁.le le
  have Pg := S₂.push { cls := .type "range_iterator", data := .fields #[rawInt a, rawInt (Builtin.Range.rangeSize a b 1), rawInt 1] } (tk := s₁.toks)
  have fresh : s₁.heap.get? s₁.heap.objs.size = none := Heap.get?_none_of_le (Nat.le_refl _)
  refine for_core (s₀ := s₁) (N := (b - a).toNat) (vals := fun i => .int (a + i)) (IS := fun i h => IsRangeIter h s₁.heap.objs.size (a + i) ((b - a).toNat - i) 1) (I := I) (E := fun _ _ => True) Pg.1 Pg.2 lc fresh ?_ ?_ ?_ ?_ ?_ ?_ ?_ ?_ hfin h0 ?_ _ ?_
  · intro q
    obtain ⟨⟨b', o⟩, hp, e⟩ := List.mem_map.mp q
    obtain ⟨ob, eo⟩ := S₂.lt hp
    have e : b' = s₁.heap.objs.size := e
    rw [e, fresh] at eo; cases eo
  · intro e; have := S₂.Llt; rw [← e] at this; exact absurd this (Nat.lt_irrefl _)
  · cases q : X.G.W0.get? s₁.heap.objs.size with
    | none => rfl
    | some o => have := S₂.hr.base _ _ q; rw [fresh] at this; cases this
  · intro i h h' hI hk _; exact hk _ hI
  · intro i h hI; exact ⟨_, hI, by simp⟩
  · intro i m' σ' s' hi S' hI hJ R E hR
    refine wpAny_pyNext_range_item hI (by omega) fun h' hI' hs' => hR _ _ _ ?_ hs' .intI
    have e1 : a + (i : Int) + 1 = a + ((i + 1 : Nat) : Int) := by omega
    have e2 : ((b - a).toNat : Int) - i - 1 = (b - a).toNat - ((i + 1 : Nat) : Int) := by omega
    rw [e1, e2] at hI'; exact hI'
  · intro m' σ' s' S' hI hJ R E hR
    exact wpAny_pyNext_range_end S'.handled hI (by omega) hR
  · intro i m' σ' hi hJ; exact hturn i m' σ' (by omega) hJ
  · show IsRangeIter _ _ _ _ _
    have e : Builtin.Range.rangeSize a b 1 = ((b - a).toNat : Int) - ((0 : Nat) : Int) := by rw [sz]; omega
    have e0 : a + ((0 : Nat) : Int) = a := by omega
    rw [← e, e0]
    exact Heap.get?_push_size _ rfl
  · intro g f m' σ' s' r' S' P' q
    exact ⟨g, m', σ', r', S', ((P₁.le le)).trans P', q⟩
theorem fresh_not {s : Shared} (S : St X m σ s) : s.heap.objs.size ∉ σ.map (·.1) ∧ s.heap.objs.size ≠ X.L ∧ X.G.W0.get? s.heap.objs.size = none := by
  have fresh : s.heap.get? s.heap.objs.size = none := Heap.get?_none_of_le (Nat.le_refl _)
  refine ⟨fun q => ?_, fun e => ?_, ?_⟩
  · obtain ⟨⟨b', o⟩, hp, e⟩ := List.mem_map.mp q
    obtain ⟨ob, eo⟩ := S.lt hp
    have e : b' = s.heap.objs.size := e
    rw [e, fresh] at eo; cases eo
  · have := S.Llt; rw [← e] at this; exact absurd this (Nat.lt_irrefl _)
  · cases q : X.G.W0.get? s.heap.objs.size with
    | none => rfl
    | some o => have := S.hr.base _ _ q; rw [fresh] at this; cases this
theorem Xs.forList {x : Str} {j : Nat} {px pos : Pos} {iter : Expr} {body : List Stmt} (lc : Lc X.fd x j) (hs : ∀ x, foldedSetIterable iter X.env x = pure x)
    (h : Ev X (eval iter X.env) m σ EQ fun r σ₁ => ∃ y l, r = .ref y ∧ LAt X.G σ₁ y l ∧ ∃ I : Nat → Loc → Hp → Prop, I 0 m σ₁ ∧ (∀ i m σ, I i m σ → LAt X.G σ y l) ∧
      (∀ (i : Nat) a m σ, l[i]? = some a → I i m σ → ∃ m₁, SetAt m j a m₁ ∧ Xs X (execs body X.env) m₁ σ NoE (turnX I i QS)) ∧ (∀ m σ, I l.length m σ → QS .next m σ)) :
    Xs X (exec (.For (.Name x px) iter body [] pos) X.env) m σ EQ QS := by
  intro s S
  refine wpAny_For (ev_then (h s S) (fun v s₁ r σ₁ r₁ S₁ P₁ h₁ => ?_) fun _ _ e => e) hs
  obtain ⟨y, l, rfl, hl, I, h0, hL, hturn, hfin⟩ := h₁
  obtain rfl := r₁.refE
  obtain ⟨items, il, z⟩ := hl _ S₁.hr
  refine wpAny_pyIter_list il ?_
  have Pg := S₁.push { cls := .type "list_iterator", data := .fields #[.ref y, .int 0 0] } (tk := s₁.toks)
  obtain ⟨f1, f2, f3⟩ := fresh_not S₁
  refine for_core (s₀ := s₁) (N := l.length) (vals := fun i => l.getD i .none) (IS := fun i h => h.IsListIter s₁.heap.objs.size y i) (I := I) (E := fun _ _ => True) Pg.1 Pg.2 lc (Heap.get?_none_of_le (Nat.le_refl _)) f1 f2 f3 ?_ ?_ ?_ ?_ ?_ hfin h0 ?_ _ ?_
  · rintro i h h' ⟨o, ho, r⟩ hk _; exact ⟨o, hk _ ho, r⟩
  · rintro i h ⟨o, ho, hc, _⟩; exact ⟨o, ho, by rw [hc]; simp⟩
  · intro i m' σ' s' hi S' hI hJ R E hR
    obtain ⟨it', il', z'⟩ := hL i m' σ' hJ _ S'.hr
    obtain ⟨v, hv, rv⟩ := z'.get (List.getElem?_eq_getElem hi)
    refine wpAny_pyNext_list_item hI il' (by simpa using hv) fun h' hI' hs' => hR v h' s'.toks hI' hs' ?_
    simpa [List.getD_eq_getElem?_getD, List.getElem?_eq_getElem hi] using rv
  · intro m' σ' s' S' hI hJ R E hR
    obtain ⟨it', il', z'⟩ := hL _ m' σ' hJ _ S'.hr
    exact wpAny_pyNext_list_end S'.handled hI il' (by simp [z'.length]) hR
  · intro i m' σ' hi hJ
    exact hturn i _ m' σ' (by simp [List.getD_eq_getElem?_getD, List.getElem?_eq_getElem hi]) hJ
  · exact ⟨_, Heap.get?_push_size _ rfl, rfl, rfl⟩
  · intro g f m' σ' s' r' S' P' q
    exact ⟨g, m', σ', r', S', P₁.trans P', q⟩
theorem Xs.forTup {x : Str} {j : Nat} {px pos : Pos} {iter : Expr} {body : List Stmt} (lc : Lc X.fd x j) (hs : ∀ x, foldedSetIterable iter X.env x = pure x)
    (h : Ev X (eval iter X.env) m σ EQ fun r σ₁ => ∃ l, r = .tup l ∧ ∃ I : Nat → Loc → Hp → Prop, I 0 m σ₁ ∧
      (∀ (i : Nat) a m σ, l[i]? = some a → I i m σ → ∃ m₁, SetAt m j a m₁ ∧ Xs X (execs body X.env) m₁ σ NoE (turnX I i QS)) ∧ (∀ m σ, I l.length m σ → QS .next m σ)) :
    Xs X (exec (.For (.Name x px) iter body [] pos) X.env) m σ EQ QS := by
  intro s S
  refine wpAny_For (ev_then (h s S) (fun v s₁ r σ₁ r₁ S₁ P₁ h₁ => ?_) fun _ _ e => e) hs
  obtain ⟨l, rfl, I, h0, hturn, hfin⟩ := h₁
  obtain ⟨t, items, rfl, tt, z⟩ := r₁.tupE
  refine wpAny_pyIter_tuple tt ?_
  have Pg := S₁.push { cls := .type "tuple_iterator", data := .fields #[.ref t, .int 0 0] } (tk := s₁.toks)
  obtain ⟨f1, f2, f3⟩ := fresh_not S₁
  have kp : ∀ a items, IsTup s₁.heap a items → IsTup (s₁.heap.push { cls := .type "tuple_iterator", data := .fields #[.ref t, .int 0 0] }) a items := fun a items x => x.push _
  refine for_core (s₀ := s₁) (N := l.length) (vals := fun i => l.getD i .none) (IS := fun i h => h.IsTupleIter s₁.heap.objs.size t i ∧ IsTup h t items.toArray ∧ VRs h l items) (I := I) (E := fun _ _ => True) Pg.1 Pg.2 lc (Heap.get?_none_of_le (Nat.le_refl _)) f1 f2 f3 ?_ ?_ ?_ ?_ ?_ hfin h0 ?_ _ ?_
  · rintro i h h' ⟨⟨o, ho, r⟩, h2, h3⟩ hk kt; exact ⟨⟨o, hk _ ho, r⟩, kt _ _ h2, h3.keep kt⟩
  · rintro i h ⟨⟨o, ho, hc, _⟩, _⟩; exact ⟨o, ho, by rw [hc]; simp⟩
  · intro i m' σ' s' hi S' hI hJ R E hR
    obtain ⟨h1, h2, h3⟩ := hI
    obtain ⟨v, hv, rv⟩ := h3.get (List.getElem?_eq_getElem hi)
    refine wpAny_pyNext_tuple_item h1 h2 (by simpa using hv) fun h' hI' hs' => hR v h' s'.toks ?_ hs' ?_
    · have nt : ∀ it, ¬ IsTup s'.heap s₁.heap.objs.size it := by
        rintro it ⟨o, ho, hc, _⟩
        obtain ⟨o', ho', hc', _⟩ := h1
        rw [ho] at ho'; cases ho'; rw [hc] at hc'; exact absurd hc' (by simp)
      have kt := IsTup.keepBut (a := s₁.heap.objs.size) (fun b o hb e => (hs'.2 b hb).trans e) nt
      exact ⟨hI', kt _ _ h2, h3.keep kt⟩
    · simpa [List.getD_eq_getElem?_getD, List.getElem?_eq_getElem hi] using rv
  · intro m' σ' s' S' hI hJ R E hR
    exact wpAny_pyNext_tuple_end S'.handled hI.1 hI.2.1 (by simp [hI.2.2.length]) hR
  · intro i m' σ' hi hJ
    exact hturn i _ m' σ' (by simp [List.getD_eq_getElem?_getD, List.getElem?_eq_getElem hi]) hJ
  · exact ⟨⟨_, Heap.get?_push_size _ rfl, rfl, rfl⟩, kp _ _ tt, z.keep kp⟩
  · intro g f m' σ' s' r' S' P' q
    exact ⟨g, m', σ', r', S', P₁.trans P', q⟩
/-! while -/
theorem Xs.while {test : Expr} {body : List Stmt} {pos : Pos} (I : Nat → Loc → Hp → Prop)
    (hturn : ∀ n m σ, I n m σ → Tt X (isTrue test X.env (eval test X.env)) m σ NoE fun b σ₁ => match b with
      | true => Xs X (execs body X.env) m σ₁ NoE fun f m' σ' => match f with
        | .next => ∃ k, k < n ∧ I k m' σ'
        | .cont => ∃ k, k < n ∧ I k m' σ'
        | .brk => QS .next m' σ'
        | .ret a => QS (.ret a) m' σ'
      | false => QS .next m σ₁) (n : Nat) (h0 : I n m σ) : Xs X (exec (.While test body [] pos) X.env) m σ EQ QS := by
  intro s S
  refine wpAny_While ?_
  refine codeAny_whileLoop (prog := X.G.prog) (w := X.G.w) (fun n s' => ∃ m' σ', St X m' σ' s' ∧ Step X.L σ σ' s.heap s'.heap ∧ I n m' σ') ?_ n ⟨m, σ, S, .refl S.noL _, h0⟩
  rintro n s' ⟨m', σ', S', P', hI⟩
  refine tt_then (hturn n m' σ' hI s' S') (fun b s₁ σ₁ S₁ P₁ h₁ => ?_) fun e s₁ he => no_EP he
  cases b with
  | true =>
    refine wpAny_mono (h₁ s₁ S₁) (fun f s₃ ⟨g, m₃, σ₃, r₃, S₃, P₃, q⟩ => ?_) fun e s₃ he => no_EP he
    have P₄ := (P'.trans P₁).trans P₃
    cases g with
    | next => obtain rfl := r₃; obtain ⟨k, hk, q⟩ := q; exact ⟨k, hk, m₃, σ₃, S₃, P₄, q⟩
    | cont => obtain rfl := r₃; obtain ⟨k, hk, q⟩ := q; exact ⟨k, hk, m₃, σ₃, S₃, P₄, q⟩
    | brk => obtain rfl := r₃; exact ⟨.next, m₃, σ₃, rfl, S₃, P₄, q⟩
    | ret a => obtain ⟨w, rfl, rw⟩ := r₃; exact ⟨.ret a, m₃, σ₃, ⟨w, rfl, rw⟩, S₃, P₄, q⟩
  | false => exact wpAny_execs_nil ⟨.next, m', σ₁, rfl, S₁, P'.trans P₁, h₁⟩
/-! an object made -/
theorem CallOk.make {G : Gl} {n : Nat} {C fI : Addr} {args : List AV} {σ : Hp} {Q : AV → Hp → Prop} {names : List Str} (g : GOk G) (hm : makesIn G.K C = true) (hi : findIn G.K (.ref C) "__init__" = some (some (.ref fI))) (hf : typeIn G.K (.ref fI) = some (.type "function"))
    (h : ∀ x dx, x ∉ σ.map (·.1) → dx ∉ σ.map (·.1) → CallOk G n (.ref fI) (.ref x :: args) ((x, .inst C dx) :: (dx, .ns names []) :: σ) fun v σ' => v = .none ∧ Q (.ref x) σ') : CallOk G (n + 1) (.ref C) args σ Q := by
  intro A hr s vals H hg ho h2 r
  have X := g.kin.keeps H.base
  obtain ⟨hh, gg, d, t, os⟩ := s
  have k : ∀ b o, hh.get? b = some o → ((hh.push emptyDict).push (instObj C hh.objs.size)).get? b = some o := fun b o e => Heap.get?_push_of_some _ (Heap.get?_push_of_some _ e)
  have fr : ∀ a, hh.objs.size ≤ a → a ∉ σ.map (·.1) := fun a ha q => by
    obtain ⟨o, hp, e⟩ := H.own_of q
    have : hh.get? a = none := Heap.get?_none_of_le ha
    cases o with
    | list l => obtain ⟨i, n, x, y⟩ := e; rw [this] at x; cases x
    | dS l => obtain ⟨i, ⟨o, es, ep, x, y⟩, z⟩ := e; rw [this] at x; cases x
    | dI l => obtain ⟨i, ⟨o, es, ep, x, y⟩, z⟩ := e; rw [this] at x; cases x
    | dT l => obtain ⟨i, ⟨o, es, ep, x, y⟩, z⟩ := e; rw [this] at x; cases x
    | inst C dx => have e : hh.get? a = _ := e; rw [this] at e; cases e
    | ns n v => obtain ⟨o, es, ep, x, y⟩ := e; rw [this] at x; cases x
    | rng x y => obtain ⟨t, u, v, q⟩ := e; have q : hh.get? a = _ := q; rw [this] at q; cases q
  have n1 := fr hh.objs.size (Nat.le_refl _)
  have n2 := fr (hh.objs.size + 1) (Nat.le_succ _)
  have w0 : ∀ a, hh.objs.size ≤ a → G.W0.get? a = none := fun a ha => by
    cases q : G.W0.get? a with
    | none => rfl
    | some o => have := H.base _ _ q; rw [Heap.get?_none_of_le ha] at this; cases this
  have kt := IsTup.keepAll k
  have gd : ((hh.push emptyDict).push (instObj C hh.objs.size)).get? hh.objs.size = some emptyDict := Heap.get?_push_of_some _ (Heap.get?_push_size _ rfl)
  have gx : ((hh.push emptyDict).push (instObj C hh.objs.size)).get? (hh.objs.size + 1) = some (instObj C hh.objs.size) := by
    have := Heap.get?_push_size (hh.push emptyDict) (o := instObj C hh.objs.size) rfl
    rwa [Heap.size_push] at this
  have H' : HRel G ((hh.objs.size + 1, .inst C hh.objs.size) :: (hh.objs.size, .ns names []) :: σ) ((hh.push emptyDict).push (instObj C hh.objs.size)) := by
    refine ⟨fun p hp => ?_, ?_, fun b o e => k b o (H.base b o e), fun p hp => ?_, fun p hp => ?_⟩
    · rcases List.mem_cons.mp hp with rfl | hp
      · exact gx
      rcases List.mem_cons.mp hp with rfl | hp
      · refine ⟨_, #[], 0, gd, rfl, fun e he => by simp at he, fun y => ?_, by simp⟩
        have : getN names [] y = none := by unfold getN; cases names.findIdx? (· == y) <;> simp
        rw [this]; rfl
      · exact (H.own p hp).keep kt (k p.1)
    · simp only [List.map_cons, List.nodup_cons, List.mem_cons, not_or]
      exact ⟨⟨Nat.succ_ne_self _, n2⟩, n1, H.nd⟩
    · rcases List.mem_cons.mp hp with rfl | hp
      · exact w0 _ (Nat.le_succ _)
      rcases List.mem_cons.mp hp with rfl | hp
      · exact w0 _ (Nat.le_refl _)
      · exact H.apart p hp
    · have h2 : 2 ≤ hh.objs.size := h2
      rcases List.mem_cons.mp hp with rfl | hp
      · exact Nat.le_succ_of_le h2
      rcases List.mem_cons.mp hp with rfl | hp
      · exact h2
      · exact H.lo p hp
  refine make_core (makes_of X hm) (looks_findIn X hi) (fun self => bind_fn X self hf) (.inl rfl) ?_
  have hr' : Rm (A.under (.builtin "type.__call__" ⟨.ref C :: vals, []⟩)) n := by
    obtain ⟨r1, r2, r3⟩ := hr
    refine ⟨?_, ?_, r3⟩
    · show A.depth + 1 + n < recursionLimit; omega
    · show A.units + 1 + 5 * n < cLine; omega
  refine codeAny_mono (h (hh.objs.size + 1) hh.objs.size n2 n1 _ hr' ⟨(hh.push emptyDict).push (instObj C hh.objs.size), gg, d, t, os⟩ (.ref (hh.objs.size + 1) :: vals) H' hg ho (by
    show 2 ≤ ((hh.push emptyDict).push _).objs.size
    rw [Heap.size_push, Heap.size_push]; have h2 : 2 ≤ hh.objs.size := h2; omega) (.cons .refI (r.keep kt))) ?_
  rintro rr s' ⟨v, a, σ', rfl, rv, Hf, Cf, gf, of, rfl, q⟩
  refine ⟨rv.noneE, .ref (hh.objs.size + 1), .ref (hh.objs.size + 1), σ', rfl, .refI, Hf, ⟨fun b o hb e => Cf.keep b o ?_ (k b o e), fun b hb => ?_⟩, gf, of, q⟩
  · have lt : b < hh.objs.size := Heap.lt_size e
    simp only [List.map_cons, List.mem_cons, not_or]
    exact ⟨Nat.ne_of_lt (Nat.lt_succ_of_lt lt), Nat.ne_of_lt lt, hb⟩
  · rcases Cf.new b hb with h | h
    · simp only [List.map_cons, List.mem_cons] at h
      rcases h with rfl | rfl | h
      · exact .inr (Heap.get?_none_of_le (Nat.le_succ _))
      · exact .inr (Heap.get?_none_of_le (Nat.le_refl _))
      · exact .inl h
    · refine .inr ?_
      cases e : hh.get? b with
      | none => rfl
      | some o => have h : ((hh.push emptyDict).push _).get? b = none := h; rw [k b o e] at h; cases h
end
open PySem PySem.W PySem.Calls PyProof.Rows PySem.SeqAt
noncomputable def Lcs (fd : FuncData) : Nat → List Str → Prop
  | _, [] => True
  | i, x :: r => Lc fd x i ∧ Lcs fd (i + 1) r
noncomputable def Gbs (fd : FuncData) : List Str → Prop
  | [] => True
  | x :: r => Gb fd x ∧ Gbs fd r
theorem lookup_kind {k : NameKind} {x : Str} : ∀ {ns : List (Str × NameKind)}, (ns.map (·.1)).Nodup → (x, k) ∈ ns → ns.lookup x = some k
  | [], _, h => by cases h
  | (y, k') :: r, nd, h => by
    simp only [List.map_cons, List.nodup_cons] at nd
    simp only [List.lookup]
    rcases List.mem_cons.mp h with e | h2
    · cases e; simp
    · have : x ≠ y := by
        intro e
        have h3 : x ∈ r.map (·.1) := List.mem_map_of_mem (f := (·.1)) h2
        exact nd.1 (e ▸ h3)
      rw [beq_eq_false_iff_ne.mpr this]
      exact lookup_kind nd.2 h2
theorem findIdx_of {names : List Str} (nd : names.Nodup) {i : Nat} {x : Str} (h : names[i]? = some x) : names.findIdx? (· == x) = some i := by
  obtain ⟨hlt, e⟩ := List.getElem?_eq_some_iff.mp h
  refine List.findIdx?_eq_some_iff_getElem.mpr ⟨hlt, by simp [e], fun j hj => ?_⟩
  have : names[j] ≠ x := by
    intro q
    have h2 : j < names.length := by omega
    have := (List.getElem_inj (h₀ := h2) (h₁ := hlt) nd).mp (q.trans e.symm)
    omega
  simpa using this
structure NmOk (fd : FuncData) (ls gs : List Str) : Prop where
  eq : fd.scope.names = ls.map (fun x => (x, NameKind.local)) ++ gs.map fun x => (x, NameKind.globalImplicit)
  nd : (("__debug__" : Str) :: (ls ++ gs)).Nodup
theorem NmOk.names {fd : FuncData} {ls gs : List Str} (N : NmOk fd ls gs) : fd.scope.names.map (·.1) = ls ++ gs := by
  rw [N.eq]; simp [Function.comp_def]
theorem NmOk.lcs {fd : FuncData} {ls gs : List Str} (N : NmOk fd ls gs) : Lcs fd 0 ls := by
  have key : ∀ i x, ls[i]? = some x → Lc fd x i := fun i x h => by
    have nd := (List.nodup_cons.mp N.nd)
    have hx : x ∈ ls := List.mem_of_getElem? h
    refine ⟨?_, lookup_kind (by rw [N.names]; exact nd.2) (by rw [N.eq]; simp [hx]), ?_⟩
    · show List.findIdx? _ _ = _
      rw [N.names]
      exact findIdx_of nd.2 (by rw [List.getElem?_append_left (List.getElem?_eq_some_iff.mp h).1]; exact h)
    · rw [beq_eq_false_iff_ne]; rintro rfl; exact nd.1 (List.mem_append_left _ hx)
  have gen : ∀ (r : List Str) (k : Nat), (∀ i x, r[i]? = some x → Lc fd x (k + i)) → Lcs fd k r := by
    intro r
    induction r with
    | nil => intro k h; trivial
    | cons x r ih => intro k h; exact ⟨h 0 x rfl, ih (k + 1) fun i y hy => by have := h (i + 1) y (by simpa using hy); rwa [show k + 1 + i = k + (i + 1) by omega]⟩
  exact gen ls 0 fun i x h => by rw [Nat.zero_add]; exact key i x h
theorem NmOk.gbs {fd : FuncData} {ls gs : List Str} (N : NmOk fd ls gs) : Gbs fd gs := by
  have key : ∀ x ∈ gs, Gb fd x := fun x hx => by
    have nd := (List.nodup_cons.mp N.nd)
    refine ⟨lookup_kind (by rw [N.names]; exact nd.2) (by rw [N.eq]; simp [hx]), ?_⟩
    rw [beq_eq_false_iff_ne]; rintro rfl; exact nd.1 (List.mem_append_right _ hx)
  have gen : ∀ (r : List Str), (∀ x ∈ r, Gb fd x) → Gbs fd r := by
    intro r
    induction r with
    | nil => intro h; trivial
    | cons x r ih => intro h; exact ⟨h x (.head _), ih fun y hy => h y (.tail _ hy)⟩
  exact gen gs key
/-- plain positional parameters -/
structure PsOk (fd : FuncData) (ps : List Str) : Prop where
  bind : ∀ vals : List Value, vals.length = ps.length → bindArgs fd ⟨vals, []⟩ = pure (ps.zip vals)
structure FnIn (K : Frag) (a : Addr) (fd : FuncData) (ps : List Str) (ls' gs : List Str) (body : List Stmt) : Prop where
  look : ∃ oc od osl, K.lookup a = some ⟨oc, od, .func fd, osl⟩
  glob : fd.globals = mainGlobals
  blt : fd.builtins = builtinsNs
  clo : fd.closure = []
  kind : fd.scope.kind = .function
  co : fd.scope.isCoroutine = false
  gen : fd.scope.isGenerator = false
  code : codeIn K fd.code fd.qualname = true
  body : fd.body = .stmts body
  nm : NmOk fd (ps ++ ls') gs
  ps : ∀ (s : Shared) (vals : List Value), K.In s.heap → vals.length = ps.length → BindsTo s fd ⟨vals, []⟩ (ps.zip vals)
theorem FnIn.ok {G : Gl} {a : Addr} {fd : FuncData} {ps ls' gs : List Str} {body : List Stmt} (F : FnIn G.K a fd ps ls' gs body) : FnOk G a fd ps body where
  look := F.look
  glob := F.glob
  blt := F.blt
  clo := F.clo
  kind := F.kind
  co := F.co
  gen := F.gen
  cell := by rw [F.nm.eq]; simp
  code := F.code
  body := F.body
  pre := by rw [F.nm.names]; simp
  nd := by rw [F.nm.names]; exact (List.nodup_cons.mp F.nm.nd).2
  loc := by
    rw [List.all_eq_true]; intro x hx
    have nd := (List.nodup_cons.mp F.nm.nd)
    rw [lookup_kind (k := .local) (by rw [F.nm.names]; exact nd.2) (by rw [F.nm.eq]; simp [hx])]; rfl
theorem bind0 {fd : FuncData} (h : bindArgs fd ⟨[], []⟩ = pure []) : ∀ vals : List Value, vals.length = 0 → bindArgs fd ⟨vals, []⟩ = pure (([] : List Str).zip vals)
  | [], _ => h
theorem bind1 {fd : FuncData} {p : Str} (h : ∀ a, bindArgs fd ⟨[a], []⟩ = pure [(p, a)]) : ∀ vals : List Value, vals.length = [p].length → bindArgs fd ⟨vals, []⟩ = pure ([p].zip vals)
  | [a], _ => h a
theorem bind2 {fd : FuncData} {p q : Str} (h : ∀ a b, bindArgs fd ⟨[a, b], []⟩ = pure [(p, a), (q, b)]) : ∀ vals : List Value, vals.length = [p, q].length → bindArgs fd ⟨vals, []⟩ = pure ([p, q].zip vals)
  | [a, b], _ => h a b
theorem bind3 {fd : FuncData} {p q r : Str} (h : ∀ a b c, bindArgs fd ⟨[a, b, c], []⟩ = pure [(p, a), (q, b), (r, c)]) : ∀ vals : List Value, vals.length = [p, q, r].length → bindArgs fd ⟨vals, []⟩ = pure ([p, q, r].zip vals)
  | [a, b, c], _ => h a b c
theorem bind4 {fd : FuncData} {p q r t : Str} (h : ∀ a b c d, bindArgs fd ⟨[a, b, c, d], []⟩ = pure [(p, a), (q, b), (r, c), (t, d)]) : ∀ vals : List Value, vals.length = [p, q, r, t].length → bindArgs fd ⟨vals, []⟩ = pure ([p, q, r, t].zip vals)
  | [a, b, c, d], _ => h a b c d
theorem bind5 {fd : FuncData} {p q r t u : Str} (h : ∀ a b c d e, bindArgs fd ⟨[a, b, c, d, e], []⟩ = pure [(p, a), (q, b), (r, c), (t, d), (u, e)]) : ∀ vals : List Value, vals.length = [p, q, r, t, u].length → bindArgs fd ⟨vals, []⟩ = pure ([p, q, r, t, u].zip vals)
  | [a, b, c, d, e], _ => h a b c d e
theorem bindE {K : Frag} {fd : FuncData} {ps : List Str} (h : ∀ vals : List Value, vals.length = ps.length → bindArgs fd ⟨vals, []⟩ = pure (ps.zip vals)) : ∀ (s : Shared) (vals : List Value), K.In s.heap → vals.length = ps.length → BindsTo s fd ⟨vals, []⟩ (ps.zip vals) :=
  fun s vals _ hl => .of_eq (h vals hl)
theorem bindD3 {K : Frag} {fd : FuncData} {p q r : Str} (h : ∀ (s : Shared) a b c, K.In s.heap → BindsTo s fd ⟨[a, b, c], []⟩ [(p, a), (q, b), (r, c)]) : ∀ (s : Shared) (vals : List Value), K.In s.heap → vals.length = [p, q, r].length → BindsTo s fd ⟨vals, []⟩ ([p, q, r].zip vals)
  | s, [a, b, c], X, _ => h s a b c X
/-- a call of a def: its body is walked with its names alone known -/
theorem CallOk.go {G : Gl} {n : Nat} {a : Addr} {fd : FuncData} {ps ls' gs : List Str} {body : List Stmt} {args : List AV} {σ : Hp} {Q : AV → Hp → Prop} (F : FnIn G.K a fd ps ls' gs body) (g : GOk G) (hl : args.length = ps.length)
    (h : ∀ fd' L A, Lcs fd' 0 (ps ++ ls') → Gbs fd' gs → Xs ⟨G, fd', L, a, A, n⟩ (execs body (Fx.env ⟨G, fd', L, a, A, n⟩)) (args.map some) σ NoE (retX Q)) : CallOk G (n + 1) (.ref a) args σ Q :=
  .enterB F.ok g (fun h vals s X r => F.ps s vals X (by rw [r.length, hl])) hl fun L A => h fd L A F.nm.lcs F.nm.gbs
open PySem PySem.W PySem.Calls PyProof.Rows PySem.SeqAt
section
variable {X : Fx} {m : Loc} {σ : Hp} {EQ : Addr → Loc → Hp → Prop} {Q : AV → Hp → Prop} {QS : AF → Loc → Hp → Prop} {QB : Bool → Hp → Prop}
theorem thenX_n {rest : List Stmt} (h : Xs X (execs rest X.env) m σ EQ QS) : thenX X rest EQ QS .next m σ := h
theorem thenX_r {rest : List Stmt} {v : AV} (h : QS (.ret v) m σ) : thenX X rest EQ QS (.ret v) m σ := h
theorem thenX_b {rest : List Stmt} (h : QS .brk m σ) : thenX X rest EQ QS .brk m σ := h
theorem thenX_c {rest : List Stmt} (h : QS .cont m σ) : thenX X rest EQ QS .cont m σ := h
theorem retX_r {v : AV} (h : Q v σ) : retX Q (.ret v) m σ := h
theorem retX_n (h : Q .none σ) : retX Q .next m σ := h
theorem ifX_t {a b : List Stmt} {c : Bool} (e : c = true) (h : Xs X (execs a X.env) m σ EQ QS) : ifX X m EQ a b QS c σ := by subst e; exact h
theorem ifX_f {a b : List Stmt} {c : Bool} (e : c = false) (h : Xs X (execs b X.env) m σ EQ QS) : ifX X m EQ a b QS c σ := by subst e; exact h
theorem ifX_c {a b : List Stmt} {c : Bool} (h1 : c = true → Xs X (execs a X.env) m σ EQ QS) (h2 : c = false → Xs X (execs b X.env) m σ EQ QS) : ifX X m EQ a b QS c σ := by
  cases c with
  | true => exact h1 rfl
  | false => exact h2 rfl
theorem ifE_t {a b : Expr} {c : Bool} (e : c = true) (h : Ev X (eval a X.env) m σ EQ Q) : ifE X m EQ a b Q c σ := by subst e; exact h
theorem ifE_f {a b : Expr} {c : Bool} (e : c = false) (h : Ev X (eval b X.env) m σ EQ Q) : ifE X m EQ a b Q c σ := by subst e; exact h
theorem ifE_c {a b : Expr} {c : Bool} (h1 : c = true → Ev X (eval a X.env) m σ EQ Q) (h2 : c = false → Ev X (eval b X.env) m σ EQ Q) : ifE X m EQ a b Q c σ := by
  cases c with
  | true => exact h1 rfl
  | false => exact h2 rfl
theorem andX_t {c : Bool} {rest} (e : c = true) (h : Tt X rest m σ EQ QB) : andX X m EQ rest QB c σ := by subst e; exact h
theorem andX_f {c : Bool} {rest} (e : c = false) (h : QB false σ) : andX X m EQ rest QB c σ := by subst e; exact h
theorem orX_t {c : Bool} {rest} (e : c = true) (h : QB true σ) : orX X m EQ rest QB c σ := by subst e; exact h
theorem orX_f {c : Bool} {rest} (e : c = false) (h : Tt X rest m σ EQ QB) : orX X m EQ rest QB c σ := by subst e; exact h
theorem andV_t {c : Bool} {rest} (e : c = true) (h : Ev X rest m σ EQ Q) : andV X m EQ rest Q (.bool c) σ := by subst e; exact h
theorem andV_f {c : Bool} {rest} (e : c = false) (h : Q (.bool false) σ) : andV X m EQ rest Q (.bool c) σ := by subst e; exact h
theorem orV_t {c : Bool} {rest} (e : c = true) (h : Q (.bool true) σ) : orV X m EQ rest Q (.bool c) σ := by subst e; exact h
theorem orV_f {c : Bool} {rest} (e : c = false) (h : Ev X rest m σ EQ Q) : orV X m EQ rest Q (.bool c) σ := by subst e; exact h
theorem EvL.nil' {Q : List AV → Hp → Prop} (h : Q [] σ) : EvL X [] m σ EQ Q := h
theorem EvL.cons' {e : Expr} {r : List Expr} {Q : List AV → Hp → Prop} (h : Ev X (eval e X.env) m σ EQ fun a σ₁ => EvL X r m σ₁ EQ fun l σ₂ => Q (a :: l) σ₂) : EvL X (e :: r) m σ EQ Q := h
theorem Ev.attr' {value : Expr} {attr : Str} {pos : Pos} (he : eval (.Attribute value attr pos) X.env = (do
      let o ← eval value X.env
      standAt pos.atName
      let r ← holding [o] (getAttr o attr true)
      letTemporaryGo value o r
      pure r)) (h : Ev X (eval value X.env) m σ EQ fun r σ₁ => Op1 X m σ₁ EQ (fun v => getAttr v attr true) r Q) : Ev X (eval (.Attribute value attr pos) X.env) m σ EQ Q := .attr h he
theorem Ev.callM' {o : Expr} {name : Str} {apos pos : Pos} {args : List Expr} {pl : Sem Bool} 
    (he : eval (.Call (.Attribute o name apos) args [] pos) X.env = (do
      let ov ← eval o X.env
      standAt apos.atName
      let (f, first) ← holding [ov] (getMethod ov name pl)
      callWith pos f first (backTo pos (starEach args X.env)) (backToKw pos (keywordEach [] X.env)))) (hs : noStar args = true)
    (h : Ev X (eval o X.env) m σ EQ fun ov σ₁ => ∃ f, Mth X m σ₁ ov name f ∧ keepOk X.G.K (avOf f) = true ∧ EvL X args m σ₁ EQ fun l σ₂ => Cl X m σ₂ EQ (avOf f) (ov :: l) Q) :
    Ev X (eval (.Call (.Attribute o name apos) args [] pos) X.env) m σ EQ Q := .callM hs he h
theorem mth {ov : AV} {name : Str} {args : List Expr} {f : Value} (h1 : Mth X m σ ov name f) (h2 : keepOk X.G.K (avOf f) = true) (h3 : EvL X args m σ EQ fun l σ₂ => Cl X m σ₂ EQ (avOf f) (ov :: l) Q) :
    ∃ f, Mth X m σ ov name f ∧ keepOk X.G.K (avOf f) = true ∧ EvL X args m σ EQ fun l σ₂ => Cl X m σ₂ EQ (avOf f) (ov :: l) Q := ⟨f, h1, h2, h3⟩
theorem setL {i : Nat} {a : AV} {m' : Loc} (h : SetAt m i a m') (q : QS .next m' σ) : ∃ m', SetAt m i a m' ∧ QS .next m' σ := ⟨m', h, q⟩
end
open PySem PySem.W PySem.Calls PyProof.Rows PySem.SeqAt
structure AtN (K : Frag) (C : Addr) (names : List Str) (x : Str) (i : Nat) : Prop where
  at_ : AtC K C x
  ix : NIx names x i
structure MtN (K : Frag) (C : Addr) (names : List Str) (x : Str) (f : Addr) : Prop where
  mt : MtC K C x f
  no : names.findIdx? (· == x) = none
  keep : keepOk K (.ref f) = true
structure GlF (K : Frag) (x : Str) (a : Addr) : Prop where
  ns : nsIn K mainGlobals x = some (some (.ref a))
  keep : keepOk K (.ref a) = true
structure GlB (K : Frag) (x : Str) (v : Value) : Prop where
  ns : nsIn K mainGlobals x = some none
  blt : bootBuiltins x = some v
  ne : x ≠ "__name__"
  keep : keepOk K (.oth v) = true
structure GlI (K : Frag) (x : Str) (i : Int) : Prop where
  ns : ∃ t, nsIn K mainGlobals x = some (some (.int i t))
section
variable {X : Fx} {m : Loc} {σ : Hp} {EQ : Addr → Loc → Hp → Prop} {Q : AV → Hp → Prop} {QS : AF → Loc → Hp → Prop} {QB : Bool → Hp → Prop}
theorem Ev.globF {x : Str} {a : Addr} {pos} (l : Gb X.fd x) (e : GlF X.G.K x a) (q : Q (.ref a) σ) : Ev X (eval (.Name x pos) X.env) m σ EQ Q := .glob l e.ns (fun _ => .refI) q
theorem Ev.globI {x : Str} {i : Int} {pos} (l : Gb X.fd x) (e : GlI X.G.K x i) (q : Q (.int i) σ) : Ev X (eval (.Name x pos) X.env) m σ EQ Q := by
  obtain ⟨t, e⟩ := e.ns
  exact .glob l e (fun _ => .intI) q
theorem Ev.globB {x : Str} {v : Value} {pos} (l : Gb X.fd x) (e : GlB X.G.K x v) (q : Q (.oth v) σ) : Ev X (eval (.Name x pos) X.env) m σ EQ Q := .blt l e.ns e.blt e.ne q
theorem Ev.callF {id : Str} {a : Addr} {p pos : Pos} {args : List Expr} (l : Gb X.fd id) (e : GlF X.G.K id a) (hs : noStar args = true)
    (h : EvL X args m σ EQ fun l σ₂ => Cl X m σ₂ EQ (.ref a) l Q) : Ev X (eval (.Call (.Name id p) args [] pos) X.env) m σ EQ Q := .callN hs (.globF l e ⟨e.keep, h⟩)
theorem Ev.callB {id : Str} {v : Value} {p pos : Pos} {args : List Expr} (l : Gb X.fd id) (e : GlB X.G.K id v) (hs : noStar args = true)
    (h : EvL X args m σ EQ fun l σ₂ => Cl X m σ₂ EQ (.oth v) l Q) : Ev X (eval (.Call (.Name id p) args [] pos) X.env) m σ EQ Q := .callN hs (.globB l e ⟨e.keep, h⟩)
theorem Op1.at {x C dx : Addr} {attr : Str} {names : List Str} {vals : List (Option AV)} {i : Nat} {a : AV} (hx : (x, .inst C dx) ∈ σ) (hd : (dx, .ns names vals) ∈ σ) (c : AtN X.G.K C names attr i)
    (g : GetAt vals i a) (k : a.known = true) (q : Q a σ) : Op1 X m σ EQ (fun v => getAttr v attr true) (.ref x) Q := .get hx hd c.at_ c.ix g k q
theorem mthO {x C dx f : Addr} {name : Str} {names : List Str} {vals : List (Option AV)} {args : List Expr} (hx : (x, .inst C dx) ∈ σ) (hd : (dx, .ns names vals) ∈ σ) (c : MtN X.G.K C names name f)
    (h : EvL X args m σ EQ fun l σ₂ => Cl X m σ₂ EQ (.ref f) (.ref x :: l) Q) :
    ∃ f, Mth X m σ (.ref x) name f ∧ keepOk X.G.K (avOf f) = true ∧ EvL X args m σ EQ fun l σ₂ => Cl X m σ₂ EQ (avOf f) (.ref x :: l) Q := ⟨.ref f, .own hx hd c.mt c.no, c.keep, h⟩
theorem mthGetS {x : Addr} {kvs : List (Str × AV)} {args : List Expr} (hx : (x, .dS kvs) ∈ σ) (h : EvL X args m σ EQ fun l σ₂ => Cl X m σ₂ EQ (.oth (.builtin "dict.get")) (.ref x :: l) Q) :
    ∃ f, Mth X m σ (.ref x) "get" f ∧ keepOk X.G.K (avOf f) = true ∧ EvL X args m σ EQ fun l σ₂ => Cl X m σ₂ EQ (avOf f) (.ref x :: l) Q := ⟨_, .get (κ := Str) hx, rfl, h⟩
theorem mthGetI {x : Addr} {kvs : List (Int × AV)} {args : List Expr} (hx : (x, .dI kvs) ∈ σ) (h : EvL X args m σ EQ fun l σ₂ => Cl X m σ₂ EQ (.oth (.builtin "dict.get")) (.ref x :: l) Q) :
    ∃ f, Mth X m σ (.ref x) "get" f ∧ keepOk X.G.K (avOf f) = true ∧ EvL X args m σ EQ fun l σ₂ => Cl X m σ₂ EQ (avOf f) (.ref x :: l) Q := ⟨_, .get (κ := Int) hx, rfl, h⟩
theorem mthGetT {x : Addr} {kvs : List (List Int × AV)} {args : List Expr} (hx : (x, .dT kvs) ∈ σ) (h : EvL X args m σ EQ fun l σ₂ => Cl X m σ₂ EQ (.oth (.builtin "dict.get")) (.ref x :: l) Q) :
    ∃ f, Mth X m σ (.ref x) "get" f ∧ keepOk X.G.K (avOf f) = true ∧ EvL X args m σ EQ fun l σ₂ => Cl X m σ₂ EQ (avOf f) (.ref x :: l) Q := ⟨_, .get (κ := List Int) hx, rfl, h⟩
theorem mthApp {x : Addr} {l : List AV} {args : List Expr} (hx : (x, .list l) ∈ σ) (h : EvL X args m σ EQ fun l σ₂ => Cl X m σ₂ EQ (.oth (.builtin "list.append")) (.ref x :: l) Q) :
    ∃ f, Mth X m σ (.ref x) "append" f ∧ keepOk X.G.K (avOf f) = true ∧ EvL X args m σ EQ fun l σ₂ => Cl X m σ₂ EQ (avOf f) (.ref x :: l) Q := ⟨_, .append hx, rfl, h⟩
theorem mthPop {x : Addr} {l : List AV} {args : List Expr} (hx : (x, .list l) ∈ σ) (h : EvL X args m σ EQ fun l σ₂ => Cl X m σ₂ EQ (.oth (.builtin "list.pop")) (.ref x :: l) Q) :
    ∃ f, Mth X m σ (.ref x) "pop" f ∧ keepOk X.G.K (avOf f) = true ∧ EvL X args m σ EQ fun l σ₂ => Cl X m σ₂ EQ (avOf f) (.ref x :: l) Q := ⟨_, .pop hx, rfl, h⟩
theorem mthRev {x : Addr} {l : List AV} {args : List Expr} (hx : (x, .list l) ∈ σ) (h : EvL X args m σ EQ fun l σ₂ => Cl X m σ₂ EQ (.oth (.builtin "list.reverse")) (.ref x :: l) Q) :
    ∃ f, Mth X m σ (.ref x) "reverse" f ∧ keepOk X.G.K (avOf f) = true ∧ EvL X args m σ EQ fun l σ₂ => Cl X m σ₂ EQ (avOf f) (.ref x :: l) Q := ⟨_, .reverse hx, rfl, h⟩
theorem Cl.getS {d : Addr} {kvs : List (Str × AV)} {k : Str} {a : AV} (hn : 1 ≤ X.n) (hm : (d, .dS kvs) ∈ σ) (q : Q ((aget kvs k).getD a) σ) : Cl X m σ EQ (.oth (.builtin "dict.get")) [.ref d, .str k, a] Q := .get (κ := Str) hn hm q
theorem Cl.getI {d : Addr} {kvs : List (Int × AV)} {k : Int} {a : AV} (hn : 1 ≤ X.n) (hm : (d, .dI kvs) ∈ σ) (q : Q ((aget kvs k).getD a) σ) : Cl X m σ EQ (.oth (.builtin "dict.get")) [.ref d, .int k, a] Q := .get (κ := Int) hn hm q
theorem Cl.getI1 {d : Addr} {kvs : List (Int × AV)} {k : Int} (hn : 1 ≤ X.n) (hm : (d, .dI kvs) ∈ σ) (q : Q ((aget kvs k).getD .none) σ) : Cl X m σ EQ (.oth (.builtin "dict.get")) [.ref d, .int k] Q := .get1 (κ := Int) hn hm q
theorem Cl.getT2 {d : Addr} {kvs : List (List Int × AV)} {k j : Int} {a : AV} (hn : 1 ≤ X.n) (hm : (d, .dT kvs) ∈ σ) (q : Q ((aget kvs [k, j]).getD a) σ) : Cl X m σ EQ (.oth (.builtin "dict.get")) [.ref d, .tup [.int k, .int j], a] Q := .get (κ := List Int) (k := [k, j]) hn hm q
theorem Cl.fn' {n : Nat} {a : Addr} {l : List AV} (h : CallOk X.G n (.ref a) l σ Q) (hn : n ≤ X.n) : Cl X m σ EQ (.ref a) l Q := .fn (h.mono hn fun _ _ q => q)
theorem setAttrX {ov : AV} {x C dx : Addr} {attr : Str} {names : List Str} {vals vals' : List (Option AV)} {i : Nat} {a : AV} {σ' : Hp} (e : ov = .ref x) (hx : (x, .inst C dx) ∈ σ) (u : UpdL dx (.ns names vals) (.ns names vals') σ σ') (c : AtN X.G.K C names attr i) (w : StC X.G.K C) (g : SetAt vals i a vals')
    (hz : vals.length ≤ 900) (hi : i ≤ 900) (q : QS .next m σ') : ∃ x C dx names vals vals' i σ', ov = .ref x ∧ (x, .inst C dx) ∈ σ ∧ UpdL dx (.ns names vals) (.ns names vals') σ σ' ∧ AtC X.G.K C attr ∧ StC X.G.K C ∧ NIx names attr i ∧ SetAt vals i a vals' ∧
      vals.length ≤ 900 ∧ i ≤ 900 ∧ QS .next m σ' := ⟨_, _, _, _, _, _, _, _, e, hx, u, c.at_, w, c.ix, g, hz, hi, q⟩
theorem Xs.setItemS {o i value : Expr} {pos' pos : Pos} (hc : noComp value = true)
    (h : Ev X (eval value X.env) m σ EQ fun a σ₁ => Ev X (eval o X.env) m σ₁ EQ fun ov σ₂ => Ev X (eval i X.env) m σ₂ EQ fun kv σ₃ => ∃ d kvs k σ', ov = .ref d ∧ kv = .str k ∧ UpdL d (.dS kvs) (.dS (aput kvs k a)) σ₃ σ' ∧ kvs.length ≤ 100000 ∧ 1 ≤ X.n ∧ QS .next m σ') :
    Xs X (exec (.Assign [.Subscript o i pos'] value pos) X.env) m σ EQ QS := .setItem (κ := Str) hc h
theorem Xs.setItemI {o i value : Expr} {pos' pos : Pos} (hc : noComp value = true)
    (h : Ev X (eval value X.env) m σ EQ fun a σ₁ => Ev X (eval o X.env) m σ₁ EQ fun ov σ₂ => Ev X (eval i X.env) m σ₂ EQ fun kv σ₃ => ∃ d kvs k σ', ov = .ref d ∧ kv = .int k ∧ UpdL d (.dI kvs) (.dI (aput kvs k a)) σ₃ σ' ∧ kvs.length ≤ 100000 ∧ 1 ≤ X.n ∧ QS .next m σ') :
    Xs X (exec (.Assign [.Subscript o i pos'] value pos) X.env) m σ EQ QS := .setItem (κ := Int) hc h
theorem Xs.setItemT {o i value : Expr} {pos' pos : Pos} (hc : noComp value = true)
    (h : Ev X (eval value X.env) m σ EQ fun a σ₁ => Ev X (eval o X.env) m σ₁ EQ fun ov σ₂ => Ev X (eval i X.env) m σ₂ EQ fun kv σ₃ => ∃ d kvs k σ', ov = .ref d ∧ kv = .tup (List.map .int k) ∧ UpdL d (.dT kvs) (.dT (aput kvs k a)) σ₃ σ' ∧ kvs.length ≤ 100000 ∧ 1 ≤ X.n ∧ QS .next m σ') :
    Xs X (exec (.Assign [.Subscript o i pos'] value pos) X.env) m σ EQ QS := .setItem (κ := List Int) hc h
theorem setItX {ov kv : AV} {d : Addr} {kvs : List (Str × AV)} {k : Str} {a : AV} {σ' : Hp} (e1 : ov = .ref d) (e2 : kv = .str k) (u : UpdL d (.dS kvs) (.dS (aput kvs k a)) σ σ') (hz : kvs.length ≤ 100000) (hn : 1 ≤ X.n) (q : QS .next m σ') :
    ∃ d kvs k σ', ov = .ref d ∧ kv = .str k ∧ UpdL d (.dS kvs) (.dS (aput kvs k a)) σ σ' ∧ kvs.length ≤ 100000 ∧ 1 ≤ X.n ∧ QS .next m σ' := ⟨_, _, _, _, e1, e2, u, hz, hn, q⟩
theorem CallOk.go' {G : Gl} {n : Nat} {a : Addr} {fd : FuncData} {ps ls' gs : List Str} {body : List Stmt} {args : List AV} {σ : Hp} {Q : AV → Hp → Prop} (F : FnIn G.K a fd ps ls' gs body) (g : GOk G) (hl : args.length = ps.length)
    (h : ∀ X : Fx, X.G = G → X.n = n → Lcs X.fd 0 (ps ++ ls') → Gbs X.fd gs → Xs X (execs body X.env) (args.map some) σ NoE (retX Q)) : CallOk G (n + 1) (.ref a) args σ Q :=
  .go F g hl fun fd' L A h1 h2 => h ⟨G, fd', L, a, A, n⟩ rfl rfl h1 h2
end
open PySem PySem.W PySem.Calls PyProof.Rows PySem.SeqAt
/-- a tuple of the text, under a name of the module -/
structure GlT (K : Frag) (x : Str) (l : List AV) : Prop where
  at_ : ∃ a items, nsIn K mainGlobals x = some (some (.ref a)) ∧ ∀ h, K.In h → IsTup h a (List.toArray items) ∧ VRs h l items
theorem GlT.strs {K : Frag} {x : Str} {a : Addr} {o : Obj} {vs : List Value} {n : Nat} {l : List AV} (e : nsIn K mainGlobals x = some (some (.ref a))) (ho : K.lookup a = some o) (hc : o.cls = .type "tuple") (hd : o.data = .seq vs.toArray n)
    (z : ∀ h, VRs h l vs) : GlT K x l := ⟨a, vs, e, fun h X => ⟨⟨o, X _ _ ho, hc, n, hd⟩, z h⟩⟩
section
variable {X : Fx} {m : Loc} {σ : Hp} {EQ : Addr → Loc → Hp → Prop} {Q : AV → Hp → Prop} {QS : AF → Loc → Hp → Prop} {QB : Bool → Hp → Prop}
theorem Ev.globT {x : Str} {l : List AV} {pos} (lk : Gb X.fd x) (e : GlT X.G.K x l) (q : Q (.tup l) σ) : Ev X (eval (.Name x pos) X.env) m σ EQ Q := by
  obtain ⟨a, items, e, t⟩ := e.at_
  intro s S
  obtain ⟨t1, t2⟩ := t _ S.kin
  have h' : Ev X (eval (.Name x pos) X.env) m σ EQ (fun av σ' => av = .ref a ∧ σ' = σ) := .glob lk e (fun _ => .refI) ⟨rfl, rfl⟩
  refine wpAny_mono (h' s S) (fun v s' ⟨av, σ', h1, h2, h3, h4, h5⟩ => ?_) fun _ _ e => e
  subst h4 h5
  obtain rfl := h1.refE
  exact ⟨.tup l, σ', .tupI (S.tups h3 _ _ t1) (S.vrs h3 t2), h2, h3, q⟩
theorem Op2.pow {a b : Int} (hn : 0 ≤ b) (hn2 : b ≤ 1000000) (ha : a.natAbs < 2 ^ 64) (q : Q (.int (a ^ b.toNat)) σ) : Op2 X m σ EQ (binaryOp .Pow) (.int a) (.int b) Q := by
  intro _ _ s S r₁ r₂; obtain ⟨t, rfl⟩ := r₁.intE; obtain ⟨u, rfl⟩ := r₂.intE; exact PyProof.Rows.pow_int_small hn hn2 ha (doneT S .intI q)
theorem Op2.itListNeg {value slice : Expr} {x : Addr} {l : List AV} {i : Int} {y : AV} (hs : plainSlice slice = true) (hm : (x, .list l) ∈ σ) (h0 : i < 0) (h1 : -(l.length : Int) ≤ i) (hhi : -(2 ^ 63) ≤ i) (hx : l[(i + l.length).toNat]? = some y) (q : Q y σ) :
    Op2 X m σ EQ (subscriptTail value slice) (.ref x) (.int i) Q := by
  intro _ _ s S r₁ r₂
  obtain rfl := r₁.refE
  obtain ⟨u, rfl⟩ := r₂.intE
  obtain ⟨is, ni, hi, z⟩ := S.hr.own _ hm
  obtain ⟨v, hv, r⟩ := z.get hx
  have hL : s.heap.IsList x is.toArray := ⟨_, hi, rfl, _, rfl⟩
  have hz : is.toArray.size = l.length := by simp [z.length]
  exact tail_any (A := X.A) hL.typeIs slot_list_getitem.lookup (wpAny_getItem_list_neg hL h0 (by rw [hz]; exact h1) hhi (by rw [hz]; simpa using hv) (done S r q)) (subscripted_plain hs _ _)
theorem Op2.lastList {value slice : Expr} {x : Addr} {l : List AV} {y : AV} (hs : plainSlice slice = true) (hm : (x, .list (l ++ [y])) ∈ σ) (hz : l.length < 2 ^ 60) (q : Q y σ) :
    Op2 X m σ EQ (subscriptTail value slice) (.ref x) (.int (-1)) Q :=
  .itListNeg hs hm (by decide) (by simp; omega) (by decide) (by
    have : (-1 + ((l ++ [y]).length : Int)).toNat = l.length := by simp; omega
    rw [this]; simp) q
theorem Cl.reverse {x : Addr} {l : List AV} {σ' : Hp} (u : UpdL x (.list l) (.list l.reverse) σ σ') (hz : l.length ≤ 100000) (q : Q .none σ') : Cl X m σ EQ (.oth (.builtin "list.reverse")) [.ref x] Q := .one fun v s S r => by
  obtain rfl := r.refE
  obtain ⟨is, ni, hi, z⟩ := S.hr.own _ u.mem
  refine call_meets PySem.F.slot_list_reverse ⟨_, hi, rfl⟩ PySem.F.entry_list_reverse (PySem.F.args_list_reverse_1 _) (AutoListH.list_reverse_list_0 x is.toArray ni (by simp [z.length]; have := sizeLine_big; omega)) ⟨hi, ?_⟩
  have rv : VRs s.heap l.reverse is.reverse := by
    clear hi u
    induction l generalizing is with
    | nil => obtain rfl := z.nilE; exact .nil
    | cons a l ih =>
      obtain ⟨v, r, rfl, h1, h2⟩ := z.consE
      rw [List.reverse_cons, List.reverse_cons]
      exact (ih (by simp at hz; omega) r h2).append (.one h1)
  have P := updList (tk := s.toks) (f := fun xs => xs.reverse) S u hi (by simpa using rv)
  exact doneH P .noneI q
/-! a tuple, sought among the text keys of a dict: never there -/
end
theorem mix_no {prog : Program} {w : World} {a : Str} {b : Int} {v : Value} (h1 : Value.isStrOf a v = true) (h2 : Value.isInt b v = true) : False := by
  obtain ⟨t, rfl⟩ := Value.isStrOf_shape h1
  obtain ⟨u, e⟩ := Value.isInt_shape h2
  cases e
noncomputable def mixKind (prog : Program) (w : World) : PySem.KeyKind prog w (Str ⊕ Int) where
  is k v := match k with
    | .inl x => Value.isStrOf x v
    | .inr i => Value.isInt i v
  hash k := match k with
    | .inl x => (PySem.strKind prog w).hash x
    | .inr i => (intKind prog w).hash i
  inj v a b h1 h2 := by
    cases a with
    | inl a => cases b with
      | inl b => rw [(PySem.strKind prog w).inj v a b h1 h2]
      | inr b => exact (mix_no (prog := prog) (w := w) h1 h2).elim
    | inr a => cases b with
      | inl b => exact (mix_no (prog := prog) (w := w) h2 h1).elim
      | inr b => rw [(intKind prog w).inj v a b h1 h2]
  byValue k v h := by
    cases k with
    | inl a => exact (PySem.strKind prog w).byValue a v h
    | inr a => exact (intKind prog w).byValue a v h
  pyHash := by
    intro A E s k v Q h q
    cases k with
    | inl a => exact (PySem.strKind prog w).pyHash (k := a) h q
    | inr a => exact (intKind prog w).pyHash (k := a) h q
  eqBool := by
    intro A E s a b u v Q h1 h2 q
    cases a with
    | inl a => cases b with
      | inl b => exact (PySem.strKind prog w).eqBool (a := a) (b := b) h1 h2 (by simpa using q)
      | inr b =>
        obtain ⟨t, rfl⟩ := Value.isStrOf_shape h1
        obtain ⟨t', rfl⟩ := Value.isInt_shape h2
        exact EqAt.str_int (A := A) (s := s) _ _ _ _ _ _ _ _ (by simpa using q)
    | inr a => cases b with
      | inl b =>
        obtain ⟨t, rfl⟩ := Value.isInt_shape h1
        obtain ⟨t', rfl⟩ := Value.isStrOf_shape h2
        exact EqAt.int_str (A := A) (s := s) _ _ _ _ _ _ _ _ (by simpa using q)
      | inr b => exact (intKind prog w).eqBool (a := a) (b := b) h1 h2 (by simpa using q)
  «strs» := by
    intro k x t v h
    cases k with
    | inl a => exact (PySem.strKind prog w).strs a x t v h
    | inr a =>
      obtain ⟨t', e⟩ := Value.isInt_shape (show Value.isInt a (.str x t) = true from h)
      cases e
section
variable {prog : Program} {w : World} {A : Around} {E : Value → Shared → Prop} {s : Shared}
theorem dictFind_tuple {d a : Addr} {o : Obj} {es ep} {h : Int} {ks : List (Str ⊕ Int)} {Q : Option Nat → Shared → Prop} (hkey : IsTupleKey (mixKind prog w) s.heap ks a)
    (ho : s.heap.get? d = some o) (hd : o.data = .dict es ep) (hk : StrKeys es) (heq : ∀ x t, EqAt A s (.str x t) (.ref a) false) (q : Q none s) :
    wpAny (model prog w) A (dictFind d (.ref a) h) Q E s := by
  have hany : ¬ (es.any fun e => e.key == Value.ref a && e.hash != h) = true := by
    rw [← Array.any_toList, List.any_eq_true]
    rintro ⟨e, hin, hc⟩
    obtain ⟨x, t, he⟩ := hk e (Array.mem_toList_iff.mp hin)
    rw [he] at hc
    simp at hc
  have hst : ∀ v ∈ (placesWithHash es.size (fun i => es[i]?.map (·.hash)) h).filterMap (fun i => es[i]?.map (·.key)), carriedByValue v = true := by
    intro v hv
    obtain ⟨i, _, hi⟩ := List.mem_filterMap.mp hv
    cases hei : es[i]? with
    | none => rw [hei] at hi; cases hi
    | some e =>
      rw [hei] at hi
      obtain rfl : e.key = v := by simpa using hi
      obtain ⟨x, t, he⟩ := hk e (Array.mem_of_getElem? hei)
      rw [he]; rfl
  have hst2 : ∀ e ∈ es, ∃ x t, e.key = .str x t := fun e he => by obtain ⟨x, t, h⟩ := hk e he; exact ⟨_, _, h⟩
  unfold dictFind
  try with_reducible refine wpAny_holding ?_
  refine wpAny_bind (wpAny_dictEntries ho hd ?_)
  dsimp only
  rw [if_neg (show ¬ ((Value.ref a :: (placesWithHash es.size (fun i => es[i]?.map (·.hash)) h).filterMap (fun i => es[i]?.map (·.key))).all carriedByValue) = true by simp [carriedByValue])]
  rw [if_neg hany]
  generalize hS : (placesWithHash es.size (fun i => es[i]?.map (·.hash)) h).filterMap (fun i => es[i]?.map (·.key)) = S at hst
  have tell : ∀ {R : Bool → Shared → Prop}, R false s → wpAny (model prog w) A (tableMayTell (.ref a) S) R E s := by
    intro R hR
    unfold tableMayTell
    split
    · exact wpAny_pure hR
    · refine wpAny_bind (wpAny_eqIsQuiet_tuple hkey ?_)
      simp only [Bool.not_true, Bool.false_eq_true, if_false]
      refine wpAny_bind ?_
      refine wpAny_forIn_list _ (fun rest r s' => s' = s ∧ r = (none, ()) ∧ ∀ v ∈ rest, carriedByValue v = true) _ ?_ ?_ _ _ ⟨rfl, rfl, hst⟩
      · rintro x rest r s' ⟨rfl, rfl, hr⟩
        rw [eqIsQuiet_byValue 8 (hr x List.mem_cons_self)]
        refine wpAny_bind (wpAny_pure ?_)
        simp only [Bool.not_true, Bool.false_eq_true, if_false]
        exact wpAny_pure ⟨rfl, rfl, fun v hv => hr v (List.mem_cons_of_mem _ hv)⟩
      · rintro r s' ⟨rfl, rfl, _⟩
        exact wpAny_pure hR
  by_cases hone : (S == [Value.ref a]) = true <;>
  (first | rw [if_pos hone] | rw [if_neg hone]) <;> (first | refine wpAny_bind (wpAny_pure ?_) | refine wpAny_bind (tell ?_)) <;> (
  rw [if_neg (by simp)]
  refine wpAny_bind ?_
  refine wpAny_forIn_list _ (fun rest b s' => s' = s ∧ b = (none, none)) _ ?_ ?_ _ _ ⟨rfl, rfl⟩
  · rintro x rest b s' ⟨rfl, rfl⟩
    cases hx : es[x]? with
    | none => exact wpAny_pure ⟨rfl, rfl⟩
    | some e =>
      dsimp only
      split
      · obtain ⟨x, t, he⟩ := hst2 e (Array.mem_of_getElem? hx)
        rw [he]
        refine wpAny_bind (wpAny_dictEpoch ho hd (wpAny_bind (heq x t _ _ _ _ (wpAny_bind (wpAny_dictEpoch ho hd ?_)))))
        show wpAny _ _ (if (ep != ep) = true then _ else _) _ E _
        rw [if_neg (by simp)]
        simp only [Bool.false_eq_true, if_false]
        refine wpAny_bind (wpAny_rule ?_)
        exact wpAny_pure ⟨rfl, rfl⟩
      · exact wpAny_pure ⟨rfl, rfl⟩
  · rintro b s' ⟨rfl, rfl⟩
    exact wpAny_pure q)
theorem in_strDict_tuple {d a : Addr} {kvs : List (Str × Value)} {ks : List (Str ⊕ Int)} {Q : Value → Shared → Prop} (hu : A.units + 10 < cLine) (hkey : IsTupleKey (mixKind prog w) s.heap ks a) (hd : s.heap.DictOf (PySem.strKind prog w) d kvs) (hs : (d == sysModules) = false)
    (heq : ∀ x t s', s'.heap = s.heap → EqAt A.in1 s' (.str x t) (.ref a) false) (q : ∀ t, Q (.bool false) { s with toks := t }) : wpAny (model prog w) A (compareOp .In (.ref a) (.ref d)) Q E s := by
  have hm := hd.mapOf
  show wpAny _ _ (do return .bool (← contains (.ref d) (.ref a))) Q E s
  refine wpAny_bind ?_
  unfold contains
  try with_reducible refine wpAny_holding ?_
  refine wpAny_bind (wpAny_specialOf hm.typeIs slot_dict_contains.lookup ?_)
  show wpAny _ _ (if (some (Value.builtin "dict.__contains__") == some Value.none) = true then _ else _) _ E s
  rw [if_neg (by rw [beq_builtin_none]; exact Bool.false_ne_true)]
  refine wpAny_bind (wpAny_callSpecialUnlessNone?_slot (name := Str.ofString "__contains__") hm.typeIs slot_dict_contains
    (wpAny_call_entry slot_dict_contains hm.typeIs entry_dict_contains ?_ (args_dict_contains _ _)))
  show wpAny _ _ (dictGet d (.ref a) >>= _) _ _ s
  refine wpAny_bind ?_
  obtain ⟨o, es, ep, ho, hx, hdd, hk, hp, hn⟩ := hd
  unfold dictGet
  try with_reducible refine wpAny_holding ?_
  refine wpAny_bind (wpAny_pyHash_tuple (by show A.units + 1 < cLine; omega) hkey ?_)
  refine wpAny_bind (dictFind_tuple (s := { s with toks := _ }) hkey ho hdd (fun e he => ?_) (fun x t => heq x t _ rfl) ?_)
  · obtain ⟨k, h1, _⟩ := hk e he
    obtain ⟨t, h2⟩ := Value.isStrOf_shape h1
    exact ⟨_, _, h2⟩
  · refine wpAny_pure ?_
    show wpAny _ _ (Builtin.Dict.pendingKey? d (.ref a) >>= _) _ _ _
    exact wpAny_bind (wpAny_pendingKey_other hs (wpAny_pure ⟨_, rfl, wpAny_truthy_bool (wpAny_pure (q _))⟩))
end
section
variable {X : Fx} {m : Loc} {σ : Hp} {EQ : Addr → Loc → Hp → Prop} {Q : AV → Hp → Prop}
theorem Op2.tupInDictS {d : Addr} {kvs : List (Str × AV)} {x : Str} {k : Int} (hn : 3 ≤ X.n) (hm : (d, .dS kvs) ∈ σ) (q : Q (.bool false) σ) : Op2 X m σ EQ (compareOp .In) (.tup [.str x, .int k]) (.ref d) Q := by
  intro v _ s S r₁ r₂
  obtain rfl := r₂.refE
  obtain ⟨r, hd, p⟩ := S.hr.own _ hm
  obtain ⟨a, items, rfl, ⟨o, ho, hc, nn, hdd⟩, z⟩ := r₁.tupE
  have hu := S.units
  refine in_strDict_tuple (ks := [.inl x, .inr k]) (by omega) ⟨o, _, nn, ho, hc, hdd, ?_⟩ hd (not_sys S hm) (fun y t s' e => ?_) fun t => doneT S .boolI q
  · obtain ⟨v1, r1, rfl, a1, a2⟩ := z.consE
    obtain ⟨v2, r2, rfl, b1, b2⟩ := a2.consE
    obtain rfl := b2.nilE
    obtain ⟨t1, rfl⟩ := a1.strE
    obtain ⟨t2, rfl⟩ := b1.intE
    exact .cons (PySem.strKind_is X.G.prog X.G.w x t1) (.cons (intKind_is X.G.prog X.G.w k t2) .nil)
  · have := eqAt (n := 0) (k := 5) (a := .str y) (b := .tup [.str x, .int k]) (v := .str y t) (w := .ref a) (A := X.A.in1) (s := s') rfl rfl (by show X.A.units + 1 + 0 < cLine; omega) .strI (by rw [e]; exact r₁)
    simpa only [AV.eqv] using this
end
open PySem PySem.W PySem.Calls PyProof.Rows PySem.SeqAt
section
variable {X : Fx} {m : Loc} {σ : Hp} {EQ : Addr → Loc → Hp → Prop} {Q : AV → Hp → Prop} {QS : AF → Loc → Hp → Prop} {QB : Bool → Hp → Prop}
theorem seqIndex_nat {i n : Nat} (h : i < n) : seqIndex? (i : Int) n = some i := by
  unfold seqIndex?
  simp
  omega
theorem Op2.itT0 {value slice : Expr} {a : AV} {l : List AV} (hs : plainSlice slice = true) (q : Q a σ) : Op2 X m σ EQ (subscriptTail value slice) (.tup (a :: l)) (.int 0) Q :=
  .itTup (j := 0) hs (by decide) (by decide) (seqIndex_nat (i := 0) (by simp)) rfl q
theorem Op2.itT1 {value slice : Expr} {a b : AV} {l : List AV} (hs : plainSlice slice = true) (q : Q b σ) : Op2 X m σ EQ (subscriptTail value slice) (.tup (a :: b :: l)) (.int 1) Q :=
  .itTup (j := 1) hs (by decide) (by decide) (seqIndex_nat (i := 1) (by simp)) rfl q
theorem Op2.itT2 {value slice : Expr} {a b c : AV} {l : List AV} (hs : plainSlice slice = true) (q : Q c σ) : Op2 X m σ EQ (subscriptTail value slice) (.tup (a :: b :: c :: l)) (.int 2) Q :=
  .itTup (j := 2) hs (by decide) (by decide) (seqIndex_nat (i := 2) (by simp)) rfl q
/-- k in a tuple of texts: told by its texts -/
theorem Op2.inT {k : AV} {l : List AV} {n n' : Nat} {b : Bool} (hk : k.pl n' = true) (hl : pls n l = true) (hn : n + 1 ≤ 5 * X.n) (e : (l.any fun y => y.eqv k) = b) (q : Q (.bool b) σ) : Op2 X m σ EQ (compareOp .In) k (.tup l) Q := .inTup hk hl hn (e ▸ q)
end
open PySem PySem.W PySem.Calls PyProof.Rows PySem.SeqAt
theorem getN_pad (names : List Str) (vals : List (Option AV)) (k : Nat) (x : Str) : getN names (vals ++ List.replicate k none) x = getN names vals x := by
  unfold getN
  cases names.findIdx? (· == x) with
  | none => rfl
  | some i =>
    show ((vals ++ List.replicate k none)[i]?).join = (vals[i]?).join
    by_cases h : i < vals.length
    · rw [List.getElem?_append_left h]
    · rw [List.getElem?_append_right (by omega), List.getElem?_eq_none (by omega : vals.length ≤ i)]
      cases q : (List.replicate k (none : Option AV))[i - vals.length]? with
      | none => rfl
      | some o =>
        have := List.mem_of_getElem? q
        rw [List.mem_replicate] at this
        rw [this.2]; rfl
theorem St.pad {X : Fx} {m : Loc} {σ : Hp} {s : Shared} (k : Nat) (S : St X m σ s) : St X (m ++ List.replicate k none) σ s := by
  obtain ⟨mr, hn, hm⟩ := S.ns
  exact ⟨S.ok, S.hr, ⟨mr, hn, fun x => by rw [getN_pad]; exact hm x⟩, S.noL, S.newL, S.gens, S.os⟩
noncomputable def padL (args : List AV) (ls : List Str) : Loc := args.map some ++ List.replicate ls.length none
theorem CallOk.go'' {G : Gl} {n : Nat} {a : Addr} {fd : FuncData} {ps ls' gs : List Str} {body : List Stmt} {args : List AV} {σ : Hp} {Q : AV → Hp → Prop} (F : FnIn G.K a fd ps ls' gs body) (g : GOk G) (hl : args.length = ps.length)
    (h : ∀ X : Fx, X.G = G → X.n = n → Lcs X.fd 0 (ps ++ ls') → Gbs X.fd gs → Xs X (execs body X.env) (padL args ls') σ NoE (retX Q)) : CallOk G (n + 1) (.ref a) args σ Q :=
  .go F g hl fun fd' L A h1 h2 => fun s S => h ⟨G, fd', L, a, A, n⟩ rfl rfl h1 h2 s (S.pad _)
section
variable {κ : Type} [DecidableEq κ]
theorem aget_none {kvs : List (κ × AV)} {k : κ} (h : k ∉ kvs.map (·.1)) : aget kvs k = none := by
  unfold aget
  rw [List.find?_eq_none.mpr]; · rfl
  intro x hx e
  exact h (by have : x.1 = k := by simpa using e
              rw [← this]; exact List.mem_map_of_mem hx)
theorem aput_new {kvs : List (κ × AV)} {k : κ} {v : AV} (h : k ∉ kvs.map (·.1)) : aput kvs k v = kvs ++ [(k, v)] := by
  unfold aput
  rw [if_neg]
  rw [List.any_eq_true]
  rintro ⟨x, hx, e⟩
  exact h (by have : x.1 = k := by simpa using e
              rw [← this]; exact List.mem_map_of_mem hx)
theorem take_key {L : List (κ × AV)} (nd : (L.map (·.1)).Nodup) {i : Nat} {k : κ} {v : AV} (h : L[i]? = some (k, v)) : k ∉ (L.take i).map (·.1) := by
  intro q
  obtain ⟨hlt, e⟩ := List.getElem?_eq_some_iff.mp h
  rw [← List.take_append_drop i L, List.map_append] at nd
  have := (List.nodup_append.mp nd).2.2 k q k ?_ rfl
  · exact this
  · rw [List.drop_eq_getElem_cons hlt, e]; simp
theorem take_step {L : List (κ × AV)} (nd : (L.map (·.1)).Nodup) {i : Nat} {k : κ} {v : AV} (h : L[i]? = some (k, v)) : aget (L.take i) k = none ∧ aput (L.take i) k v = L.take (i + 1) := by
  refine ⟨aget_none (take_key nd h), ?_⟩
  rw [aput_new (take_key nd h), List.take_add_one, h]; rfl
theorem aget_at {L : List (κ × AV)} (nd : (L.map (·.1)).Nodup) {i : Nat} {k : κ} {v : AV} (h : L[i]? = some (k, v)) : aget L k = some v := by
  induction L generalizing i with
  | nil => simp at h
  | cons p L ih =>
    simp only [List.map_cons, List.nodup_cons] at nd
    unfold aget
    cases i with
    | zero =>
      simp at h; subst h
      simp
    | succ i =>
      have hm : (k, v) ∈ L := List.mem_of_getElem? (by simpa using h)
      have : p.1 ≠ k := by rintro rfl; exact nd.1 (List.mem_map_of_mem (f := (·.1)) hm)
      rw [List.find?_cons, decide_eq_false this]
      exact ih nd.2 (by simpa using h)
theorem take_succ_eq {α : Type} {L : List α} {i : Nat} {a : α} (h : L[i]? = some a) : L.take (i + 1) = L.take i ++ [a] := by
  rw [List.take_add_one, h]; rfl
end
open PySem PySem.W PySem.Calls PyProof.Rows PySem.SeqAt
theorem UpdL.app {a : Addr} {o o' : AO} {l r r' : Hp} (u : UpdL a o o' r r') : UpdL a o o' (l ++ r) (l ++ r') := by
  induction l with
  | nil => exact u
  | cons p l ih => exact .there ih
theorem Le.skip {p : Addr × AO} {a b : Hp} (h : Le a b) : Le (p :: a) (p :: b) := by
  obtain ⟨t, q⟩ := h; exact ⟨t, q.cons p⟩
theorem Le.cut {p : Addr × AO} {a b : Hp} (h : Le a b) : Le a (p :: b) := by
  obtain ⟨t, q⟩ := h
  exact ⟨p :: t, (q.cons p).trans List.perm_middle.symm⟩
theorem Le.app {l a b : Hp} (h : Le a b) : Le (l ++ a) (l ++ b) := by
  obtain ⟨t, q⟩ := h
  exact ⟨t, by rw [List.append_assoc]; exact q.append_left l⟩
theorem Le.perm {a b : Hp} (h : b.Perm a) : Le a b := ⟨[], by simpa using h⟩
theorem Xs.le {X : Fx} {m : Loc} {σ : Hp} {EQ : Addr → Loc → Hp → Prop} {t : Sem Flow} {QS : AF → Loc → Hp → Prop} {σ₁ : Hp} (l : Le σ₁ σ) (h : Xs X t m σ₁ EQ QS) : Xs X t m σ EQ QS := h.drop l
theorem CallOk.le {G : Gl} {n : Nat} {f : Value} {args : List AV} {σ σ₁ : Hp} {Q : AV → Hp → Prop} (l : Le σ₁ σ) (h : CallOk G n f args σ₁ Q) : CallOk G n f args σ Q := by
  intro A hr s vals H h1 h2 h3 h4
  have H' : HRel G σ₁ s.heap := ⟨fun p hp => H.own p (l.sub p hp), l.nd H.nd, H.base, fun p hp => H.apart p (l.sub p hp), fun p hp => H.lo p (l.sub p hp)⟩
  refine codeAny_mono (h A hr s vals H' h1 h2 h3 h4) ?_
  rintro r s' ⟨v, a, σ', e, rv, Hf, C, gf, of, q⟩
  have sub : ∀ b, b ∈ σ₁.map (·.1) → b ∈ σ.map (·.1) := fun b hb => by
    obtain ⟨p, hp, rfl⟩ := List.mem_map.mp hb
    exact List.mem_map_of_mem (l.sub p hp)
  exact ⟨v, a, σ', e, rv, Hf, ⟨fun b o hb => C.keep b o fun q => hb (sub b q), fun b hb => (C.new b hb).imp (sub b) id⟩, gf, of, q⟩
theorem CallOk.weak {G : Gl} {n : Nat} {f : Value} {args : List AV} {σ : Hp} {Q : AV → Hp → Prop} (h : CallOk G n f args σ fun a σ' => ∃ σ'', Le σ'' σ' ∧ Q a σ'') : CallOk G n f args σ Q := by
  intro A hr s vals H h1 h2 h3 h4
  refine codeAny_mono (h A hr s vals H h1 h2 h3 h4) ?_
  rintro r s' ⟨v, a, σ', e, rv, Hf, C, gf, of, σ'', l, q⟩
  exact ⟨v, a, σ'', e, rv, ⟨fun p hp => Hf.own p (l.sub p hp), l.nd Hf.nd, Hf.base, fun p hp => Hf.apart p (l.sub p hp), fun p hp => Hf.lo p (l.sub p hp)⟩,
    ⟨C.keep, fun b hb => C.new b (by obtain ⟨p, hp, rfl⟩ := List.mem_map.mp hb; exact List.mem_map_of_mem (l.sub p hp))⟩, gf, of, q⟩
/-- a class call -/
structure ClsIn (K : Frag) (C fI : Addr) : Prop where
  make : makesIn K C = true
  init : findIn K (.ref C) "__init__" = some (some (.ref fI))
  fn : typeIn K (.ref fI) = some (.type "function")
theorem CallOk.make' {G : Gl} {n : Nat} {C fI : Addr} {args : List AV} {σ : Hp} {Q : AV → Hp → Prop} (names : List Str) (g : GOk G) (c : ClsIn G.K C fI)
    (h : ∀ x dx, CallOk G n (.ref fI) (.ref x :: args) ((x, .inst C dx) :: (dx, .ns names []) :: σ) fun v σ' => v = .none ∧ Q (.ref x) σ') : CallOk G (n + 1) (.ref C) args σ Q :=
  .make (names := names) g c.make c.init c.fn fun x dx _ _ => h x dx
section
variable {I : Nat → Loc → Hp → Prop} {i : Nat} {QS : AF → Loc → Hp → Prop} {m : Loc} {σ : Hp}
theorem turnX_b (h : QS .next m σ) : turnX I i QS .brk m σ := h
theorem turnX_c (h : I (i + 1) m σ) : turnX I i QS .cont m σ := h
theorem turnX_n (h : I (i + 1) m σ) : turnX I i QS .next m σ := h
end
open PySem
/-! the parser as a machine -/
inductive Tr where
  | num (k : Int) | un (f : Int) (x : Tr) | bin (f : Int) (l r : Tr)
noncomputable def Tr.av : Tr → AV
  | .num k => .tup [.str "i", .int k]
  | .un f x => .tup [.str "s", .int f, .tup [x.av]]
  | .bin f l r => .tup [.str "s", .int f, .tup [l.av, r.av]]
inductive Tk where
  | int (k : Int) | op (j : Nat) | fin
structure OpE where
  nm : Nat → Str
  num : Nat → Int
  fn : Nat → Int
  lev : Nat → Int
  fix : Nat → Str
  lft : Nat → Int
  rgt : Nat → Int
  inf : Nat → Bool
structure Fm where
  f : Int
  lv : Int
  lim : Int
  left : Option Tr
noncomputable def Fm.redu (f : Fm) (t : Tr) : Tr := match f.left with
  | none => .un f.f t
  | some l => .bin f.f l t
structure PSt where
  pl : Nat
  lim : Int
  term : Tr
  pr : Int
  fs : List Fm
noncomputable def blocked (tok : Nat → Option Tk) (O : OpE) (s : PSt) : Prop := tok s.pl = some .fin ∨ ∃ j, tok s.pl = some (.op j) ∧ ¬ (O.lev j ≤ s.lim ∧ s.pr ≤ O.lft j)
inductive Run (tok : Nat → Option Tk) (O : OpE) : Nat → PSt → PSt → Prop
  | fin {s : PSt} : blocked tok O s → s.fs = [] → Run tok O 1 s s
  | red {n : Nat} {pl : Nat} {lim : Int} {term : Tr} {pr : Int} {f : Fm} {fs : List Fm} {r : PSt} : blocked tok O ⟨pl, lim, term, pr, f :: fs⟩ → Run tok O n ⟨pl, f.lim, f.redu term, f.lv, fs⟩ r → Run tok O (n + 1) ⟨pl, lim, term, pr, f :: fs⟩ r
  | shift {n : Nat} {s : PSt} {j : Nat} {k : Int} {r : PSt} : tok s.pl = some (.op j) → O.inf j = true → O.lev j ≤ s.lim → s.pr ≤ O.lft j → tok (s.pl + 1) = some (.int k) →
      Run tok O n ⟨s.pl + 2, O.rgt j, .num k, 0, ⟨O.fn j, O.lev j, s.lim, some s.term⟩ :: s.fs⟩ r → Run tok O (n + 2) s r
  | post {n : Nat} {s : PSt} {j : Nat} {r : PSt} : tok s.pl = some (.op j) → O.inf j = false → O.lev j ≤ s.lim → s.pr ≤ O.lft j → Run tok O n ⟨s.pl + 1, s.lim, .un (O.fn j) s.term, O.lev j, s.fs⟩ r → Run tok O (n + 1) s r
open PySem
/-! readings of a row of parts -/
inductive Pt where
  | num (k : Int) | op (j : Nat)
inductive Rd (O : OpE) (P : List Pt) : Nat → Nat → Int → Prop
  | num {a : Nat} {k : Int} : P[a]? = some (.num k) → Rd O P a (a + 1) 0
  | post {a b j : Nat} {p : Int} : Rd O P a b p → P[b]? = some (.op j) → O.inf j = false → p ≤ O.lft j → Rd O P a (b + 1) (O.lev j)
  | bin {a m b j : Nat} {p q : Int} : Rd O P a m p → P[m]? = some (.op j) → O.inf j = true → p ≤ O.lft j → Rd O P (m + 1) b q → q ≤ O.rgt j → Rd O P a b (O.lev j)
theorem Rd.lt {O : OpE} {P : List Pt} {a b : Nat} {p : Int} (h : Rd O P a b p) : a < b := by
  induction h with
  | num => omega
  | post _ _ _ _ ih => omega
  | bin _ _ _ _ _ _ ih1 ih2 => omega
theorem Rd.first {O : OpE} {P : List Pt} {a b : Nat} {p : Int} (h : Rd O P a b p) : ∃ k, P[a]? = some (.num k) := by
  induction h with
  | num h => exact ⟨_, h⟩
  | post _ _ _ _ ih => exact ih
  | bin _ _ _ _ _ _ ih1 ih2 => exact ih1
theorem Rd.le {O : OpE} {P : List Pt} {a b : Nat} {p : Int} (h : Rd O P a b p) : b ≤ P.length := by
  induction h with
  | num h => exact (List.getElem?_eq_some_iff.mp h).1
  | post _ h _ _ ih => exact (List.getElem?_eq_some_iff.mp h).1
  | bin _ _ _ _ _ _ ih1 ih2 => exact ih2
/-- the least priority of a reading -/
noncomputable def IsBest (O : OpE) (P : List Pt) (a b : Nat) : Option Int → Prop
  | some p => Rd O P a b p ∧ ∀ q, Rd O P a b q → p ≤ q
  | none => ∀ q, ¬ Rd O P a b q
/-- what is found at the end of a row: a postfix or an infix operator -/
inductive Fnd (O : OpE) (P : List Pt) (a b : Nat) (M : Nat) : Int → Prop
  | num {k : Int} : P[a]? = some (.num k) → b = a + 1 → Fnd O P a b M 0
  | post {c j : Nat} {p : Int} : b = c + 1 → Rd O P a c p → P[c]? = some (.op j) → O.inf j = false → p ≤ O.lft j → Fnd O P a b M (O.lev j)
  | bin {m j : Nat} {p q : Int} : m < M → Rd O P a m p → P[m]? = some (.op j) → O.inf j = true → p ≤ O.lft j → Rd O P (m + 1) b q → q ≤ O.rgt j → Fnd O P a b M (O.lev j)
theorem fnd_iff {O : OpE} {P : List Pt} {a b M : Nat} (hM : b ≤ M + 1) {p : Int} : Fnd O P a b M p ↔ Rd O P a b p := by
  constructor
  · rintro (⟨h, rfl⟩ | ⟨rfl, h1, h2, h3, h4⟩ | ⟨h0, h1, h2, h3, h4, h5, h6⟩)
    · exact .num h
    · exact .post h1 h2 h3 h4
    · exact .bin h1 h2 h3 h4 h5 h6
  · intro h
    cases h with
    | num h => exact .num h rfl
    | post h1 h2 h3 h4 => exact .post rfl h1 h2 h3 h4
    | bin h1 h2 h3 h4 h5 h6 => exact .bin (by have := h5.lt; omega) h1 h2 h3 h4 h5 h6
open PySem PySem.W PySem.Calls PyProof.Rows PySem.SeqAt
theorem le_n {n k x : Nat} (h : x = k) (d : n ≤ k) : n ≤ x := h ▸ d
section
variable {X : Fx} {m : Loc} {σ : Hp} {EQ : Addr → Loc → Hp → Prop} {Q : AV → Hp → Prop} {QS : AF → Loc → Hp → Prop}
theorem Cl.lenT {l : List AV} (hz : l.length < 2 ^ 60) (q : Q (.int l.length) σ) : Cl X m σ EQ (.oth (.builtin "len")) [.tup l] Q := .one fun v s S r => by
  obtain ⟨a, is, rfl, t, z⟩ := r.tupE
  have e : is.toArray.size = l.length := by simp [z.length]
  refine PyProof.Rows.len_tuple t (by rw [e]; omega) ?_
  rw [e]; exact doneT S .intI q
theorem unpL {a : AV} {l : List AV} {elts : List Expr} {m' : Loc} (e : a = .tup l) (u : UnpN X elts l m m') (q : QS .next m' σ) : ∃ l m', a = .tup l ∧ UnpN X elts l m m' ∧ QS .next m' σ := ⟨l, m', e, u, q⟩
theorem Op2.itDS {value slice : Expr} {d : Addr} {kvs : List (Str × AV)} {k : Str} {a : AV} (hs : plainSlice slice = true) (hn : 1 ≤ X.n) (hm : (d, .dS kvs) ∈ σ) (hg : aget kvs k = some a) (q : Q a σ) :
    Op2 X m σ EQ (subscriptTail value slice) (.ref d) (.str k) Q := .itDict (κ := Str) hs hn hm hg q
theorem Op2.inDS {d : Addr} {kvs : List (Str × AV)} {k : Str} {b : Bool} (hn : 1 ≤ X.n) (hm : (d, .dS kvs) ∈ σ) (e : (aget kvs k).isSome = b) (q : Q (.bool b) σ) : Op2 X m σ EQ (compareOp .In) (.str k) (.ref d) Q := .inDict (κ := Str) hn hm (e ▸ q)
theorem Op2.inDI {d : Addr} {kvs : List (Int × AV)} {k : Int} {b : Bool} (hn : 1 ≤ X.n) (hm : (d, .dI kvs) ∈ σ) (e : (aget kvs k).isSome = b) (q : Q (.bool b) σ) : Op2 X m σ EQ (compareOp .In) (.int k) (.ref d) Q := .inDict (κ := Int) hn hm (e ▸ q)
end
open PySem PySem.W PySem.Calls PyProof.Rows PySem.SeqAt
noncomputable abbrev nmSy : List Str := ["texts", "atom_numbers", "functors", "functor_numbers"]
structure SyF (K : Frag) : Prop where
  a_texts : AtN K 154 nmSy "texts" 0
  a_atom_numbers : AtN K 154 nmSy "atom_numbers" 1
  a_functors : AtN K 154 nmSy "functors" 2
  a_functor_numbers : AtN K 154 nmSy "functor_numbers" 3
  m_atom : MtN K 154 nmSy "atom" 88
  m_functor : MtN K 154 nmSy "functor" 102
  m_func : MtN K 154 nmSy "func" 109
  st : StC K 154
theorem SyF.of (p : Params) : SyF (KK p) where
  a_texts := ⟨⟨by kernel_rfl, by kernel_rfl, by kernel_rfl⟩, by unfold NIx; kernel_rfl⟩
  a_atom_numbers := ⟨⟨by kernel_rfl, by kernel_rfl, by kernel_rfl⟩, by unfold NIx; kernel_rfl⟩
  a_functors := ⟨⟨by kernel_rfl, by kernel_rfl, by kernel_rfl⟩, by unfold NIx; kernel_rfl⟩
  a_functor_numbers := ⟨⟨by kernel_rfl, by kernel_rfl, by kernel_rfl⟩, by unfold NIx; kernel_rfl⟩
  m_atom := ⟨⟨by kernel_rfl, by kernel_rfl, by kernel_rfl⟩, by kernel_rfl, by kernel_rfl⟩
  m_functor := ⟨⟨by kernel_rfl, by kernel_rfl, by kernel_rfl⟩, by kernel_rfl, by kernel_rfl⟩
  m_func := ⟨⟨by kernel_rfl, by kernel_rfl, by kernel_rfl⟩, by kernel_rfl, by kernel_rfl⟩
  st := ⟨by kernel_rfl, by kernel_rfl⟩
noncomputable abbrev nmOp : List Str := ["symbols", "prefixes", "infixes", "postfixes"]
structure OpF (K : Frag) : Prop where
  a_symbols : AtN K 286 nmOp "symbols" 0
  a_prefixes : AtN K 286 nmOp "prefixes" 1
  a_infixes : AtN K 286 nmOp "infixes" 2
  a_postfixes : AtN K 286 nmOp "postfixes" 3
  m_prefix : MtN K 286 nmOp "prefix" 241
  m_infix : MtN K 286 nmOp "infix" 248
  m_postfix : MtN K 286 nmOp "postfix" 255
  m_is_operator : MtN K 286 nmOp "is_operator" 262
  m_table_of : MtN K 286 nmOp "table_of" 269
  m_add : MtN K 286 nmOp "add" 276
  st : StC K 286
theorem OpF.of (p : Params) : OpF (KK p) where
  a_symbols := ⟨⟨by kernel_rfl, by kernel_rfl, by kernel_rfl⟩, by unfold NIx; kernel_rfl⟩
  a_prefixes := ⟨⟨by kernel_rfl, by kernel_rfl, by kernel_rfl⟩, by unfold NIx; kernel_rfl⟩
  a_infixes := ⟨⟨by kernel_rfl, by kernel_rfl, by kernel_rfl⟩, by unfold NIx; kernel_rfl⟩
  a_postfixes := ⟨⟨by kernel_rfl, by kernel_rfl, by kernel_rfl⟩, by unfold NIx; kernel_rfl⟩
  m_prefix := ⟨⟨by kernel_rfl, by kernel_rfl, by kernel_rfl⟩, by kernel_rfl, by kernel_rfl⟩
  m_infix := ⟨⟨by kernel_rfl, by kernel_rfl, by kernel_rfl⟩, by kernel_rfl, by kernel_rfl⟩
  m_postfix := ⟨⟨by kernel_rfl, by kernel_rfl, by kernel_rfl⟩, by kernel_rfl, by kernel_rfl⟩
  m_is_operator := ⟨⟨by kernel_rfl, by kernel_rfl, by kernel_rfl⟩, by kernel_rfl, by kernel_rfl⟩
  m_table_of := ⟨⟨by kernel_rfl, by kernel_rfl, by kernel_rfl⟩, by kernel_rfl, by kernel_rfl⟩
  m_add := ⟨⟨by kernel_rfl, by kernel_rfl, by kernel_rfl⟩, by kernel_rfl, by kernel_rfl⟩
  st := ⟨by kernel_rfl, by kernel_rfl⟩
noncomputable abbrev nmFr : List Str := ["kind", "limit", "functor", "name", "priority", "left", "items"]
structure FrF (K : Frag) : Prop where
  a_kind : AtN K 309 nmFr "kind" 0
  a_limit : AtN K 309 nmFr "limit" 1
  a_functor : AtN K 309 nmFr "functor" 2
  a_name : AtN K 309 nmFr "name" 3
  a_priority : AtN K 309 nmFr "priority" 4
  a_left : AtN K 309 nmFr "left" 5
  a_items : AtN K 309 nmFr "items" 6
  st : StC K 309
theorem FrF.of (p : Params) : FrF (KK p) where
  a_kind := ⟨⟨by kernel_rfl, by kernel_rfl, by kernel_rfl⟩, by unfold NIx; kernel_rfl⟩
  a_limit := ⟨⟨by kernel_rfl, by kernel_rfl, by kernel_rfl⟩, by unfold NIx; kernel_rfl⟩
  a_functor := ⟨⟨by kernel_rfl, by kernel_rfl, by kernel_rfl⟩, by unfold NIx; kernel_rfl⟩
  a_name := ⟨⟨by kernel_rfl, by kernel_rfl, by kernel_rfl⟩, by unfold NIx; kernel_rfl⟩
  a_priority := ⟨⟨by kernel_rfl, by kernel_rfl, by kernel_rfl⟩, by unfold NIx; kernel_rfl⟩
  a_left := ⟨⟨by kernel_rfl, by kernel_rfl, by kernel_rfl⟩, by unfold NIx; kernel_rfl⟩
  a_items := ⟨⟨by kernel_rfl, by kernel_rfl, by kernel_rfl⟩, by unfold NIx; kernel_rfl⟩
  st := ⟨by kernel_rfl, by kernel_rfl⟩
noncomputable abbrev nmPa : List Str := ["symbols", "operators", "mode", "tokens", "place", "frames", "limit", "term", "priority", "numbers", "names", "counts", "next_number"]
structure PaF (K : Frag) : Prop where
  a_symbols : AtN K 517 nmPa "symbols" 0
  a_operators : AtN K 517 nmPa "operators" 1
  a_mode : AtN K 517 nmPa "mode" 2
  a_tokens : AtN K 517 nmPa "tokens" 3
  a_place : AtN K 517 nmPa "place" 4
  a_frames : AtN K 517 nmPa "frames" 5
  a_limit : AtN K 517 nmPa "limit" 6
  a_term : AtN K 517 nmPa "term" 7
  a_priority : AtN K 517 nmPa "priority" 8
  a_numbers : AtN K 517 nmPa "numbers" 9
  a_names : AtN K 517 nmPa "names" 10
  a_counts : AtN K 517 nmPa "counts" 11
  a_next_number : AtN K 517 nmPa "next_number" 12
  m_peek : MtN K 517 nmPa "peek" 369
  m_take : MtN K 517 nmPa "take" 376
  m_fault : MtN K 517 nmPa "fault" 383
  m_parse : MtN K 517 nmPa "parse" 397
  m_settle : MtN K 517 nmPa "settle" 404
  m_operand : MtN K 517 nmPa "operand" 418
  m_named : MtN K 517 nmPa "named" 425
  m_operator_operand : MtN K 517 nmPa "operator_operand" 432
  m_stands_alone : MtN K 517 nmPa "stands_alone" 439
  m_operator_name : MtN K 517 nmPa "operator_name" 458
  m_operator : MtN K 517 nmPa "operator" 465
  m_admits : MtN K 517 nmPa "admits" 472
  m_shift_infix : MtN K 517 nmPa "shift_infix" 479
  m_apply_postfix : MtN K 517 nmPa "apply_postfix" 486
  m_reduce : MtN K 517 nmPa "reduce" 493
  st : StC K 517
theorem PaF.of (p : Params) : PaF (KK p) where
  a_symbols := ⟨⟨by kernel_rfl, by kernel_rfl, by kernel_rfl⟩, by unfold NIx; kernel_rfl⟩
  a_operators := ⟨⟨by kernel_rfl, by kernel_rfl, by kernel_rfl⟩, by unfold NIx; kernel_rfl⟩
  a_mode := ⟨⟨by kernel_rfl, by kernel_rfl, by kernel_rfl⟩, by unfold NIx; kernel_rfl⟩
  a_tokens := ⟨⟨by kernel_rfl, by kernel_rfl, by kernel_rfl⟩, by unfold NIx; kernel_rfl⟩
  a_place := ⟨⟨by kernel_rfl, by kernel_rfl, by kernel_rfl⟩, by unfold NIx; kernel_rfl⟩
  a_frames := ⟨⟨by kernel_rfl, by kernel_rfl, by kernel_rfl⟩, by unfold NIx; kernel_rfl⟩
  a_limit := ⟨⟨by kernel_rfl, by kernel_rfl, by kernel_rfl⟩, by unfold NIx; kernel_rfl⟩
  a_term := ⟨⟨by kernel_rfl, by kernel_rfl, by kernel_rfl⟩, by unfold NIx; kernel_rfl⟩
  a_priority := ⟨⟨by kernel_rfl, by kernel_rfl, by kernel_rfl⟩, by unfold NIx; kernel_rfl⟩
  a_numbers := ⟨⟨by kernel_rfl, by kernel_rfl, by kernel_rfl⟩, by unfold NIx; kernel_rfl⟩
  a_names := ⟨⟨by kernel_rfl, by kernel_rfl, by kernel_rfl⟩, by unfold NIx; kernel_rfl⟩
  a_counts := ⟨⟨by kernel_rfl, by kernel_rfl, by kernel_rfl⟩, by unfold NIx; kernel_rfl⟩
  a_next_number := ⟨⟨by kernel_rfl, by kernel_rfl, by kernel_rfl⟩, by unfold NIx; kernel_rfl⟩
  m_peek := ⟨⟨by kernel_rfl, by kernel_rfl, by kernel_rfl⟩, by kernel_rfl, by kernel_rfl⟩
  m_take := ⟨⟨by kernel_rfl, by kernel_rfl, by kernel_rfl⟩, by kernel_rfl, by kernel_rfl⟩
  m_fault := ⟨⟨by kernel_rfl, by kernel_rfl, by kernel_rfl⟩, by kernel_rfl, by kernel_rfl⟩
  m_parse := ⟨⟨by kernel_rfl, by kernel_rfl, by kernel_rfl⟩, by kernel_rfl, by kernel_rfl⟩
  m_settle := ⟨⟨by kernel_rfl, by kernel_rfl, by kernel_rfl⟩, by kernel_rfl, by kernel_rfl⟩
  m_operand := ⟨⟨by kernel_rfl, by kernel_rfl, by kernel_rfl⟩, by kernel_rfl, by kernel_rfl⟩
  m_named := ⟨⟨by kernel_rfl, by kernel_rfl, by kernel_rfl⟩, by kernel_rfl, by kernel_rfl⟩
  m_operator_operand := ⟨⟨by kernel_rfl, by kernel_rfl, by kernel_rfl⟩, by kernel_rfl, by kernel_rfl⟩
  m_stands_alone := ⟨⟨by kernel_rfl, by kernel_rfl, by kernel_rfl⟩, by kernel_rfl, by kernel_rfl⟩
  m_operator_name := ⟨⟨by kernel_rfl, by kernel_rfl, by kernel_rfl⟩, by kernel_rfl, by kernel_rfl⟩
  m_operator := ⟨⟨by kernel_rfl, by kernel_rfl, by kernel_rfl⟩, by kernel_rfl, by kernel_rfl⟩
  m_admits := ⟨⟨by kernel_rfl, by kernel_rfl, by kernel_rfl⟩, by kernel_rfl, by kernel_rfl⟩
  m_shift_infix := ⟨⟨by kernel_rfl, by kernel_rfl, by kernel_rfl⟩, by kernel_rfl, by kernel_rfl⟩
  m_apply_postfix := ⟨⟨by kernel_rfl, by kernel_rfl, by kernel_rfl⟩, by kernel_rfl, by kernel_rfl⟩
  m_reduce := ⟨⟨by kernel_rfl, by kernel_rfl, by kernel_rfl⟩, by kernel_rfl, by kernel_rfl⟩
  st := ⟨by kernel_rfl, by kernel_rfl⟩
structure GlbF (K : Frag) : Prop where
  f_fixed_atoms : GlF K "fixed_atoms" 60
  f_fixed_functors : GlF K "fixed_functors" 67
  f_atom : GlF K "atom" 173
  f_integer : GlF K "integer" 180
  f_struct : GlF K "struct" 187
  f_fixity : GlF K "fixity" 212
  f_bounds : GlF K "bounds" 219
  f_ends_operand : GlF K "ends_operand" 320
  f_closes : GlF K "closes" 327
  f_is_punct : GlF K "is_punct" 334
  f_Symbols : GlF K "Symbols" 154
  f_OperatorTable : GlF K "OperatorTable" 286
  f_Frame : GlF K "Frame" 309
  f_Parser : GlF K "Parser" 517
  f_SyntaxFault : GlF K "SyntaxFault" 51
  f_standard_rows : GlF K "standard_rows" 205
  f_law_figures : GlF K "_law_figures" 528
  f_law_sides : GlF K "_law_sides" 535
  f_law_least : GlF K "_law_least" 542
  f_law_unfold : GlF K "_law_unfold" 549
  i_COMMA_PRIORITY : GlI K "COMMA_PRIORITY" 1000
  i_A_COMMA : GlI K "A_COMMA" 7
  i_A_BAR : GlI K "A_BAR" 8
  i_CLAUSE_PRIORITY : GlI K "CLAUSE_PRIORITY" 1200
  i_ARGUMENT_PRIORITY : GlI K "ARGUMENT_PRIORITY" 999
  i_WANT_OPERAND : GlI K "WANT_OPERAND" 0
  i_WANT_OPERATOR : GlI K "WANT_OPERATOR" 1
  i_DONE : GlI K "DONE" 2
  i_A_NIL : GlI K "A_NIL" 0
  i_A_CURLY : GlI K "A_CURLY" 2
  b_len : GlB K "len" (.builtin "len")
  b_range : GlB K "range" (.type "range")
  b_min : GlB K "min" (.builtin "min")
  b_int : GlB K "int" (.type "int")
  b_tuple : GlB K "tuple" (.type "tuple")
  t_PREFIX_TYPES : GlT K "PREFIX_TYPES" [.str "fx", .str "fy"]
  t_INFIX_TYPES : GlT K "INFIX_TYPES" [.str "xfx", .str "xfy", .str "yfx"]
  t_POSTFIX_TYPES : GlT K "POSTFIX_TYPES" [.str "xf", .str "yf"]
  t_CLOSERS : GlT K "CLOSERS" [.str ")", .str "]", .str "}"]
  t_SEPARATORS : GlT K "SEPARATORS" [.str ",", .str "|"]
theorem GlbF.of (p : Params) : GlbF (KK p) where
  f_fixed_atoms := ⟨by kernel_rfl, by kernel_rfl⟩
  f_fixed_functors := ⟨by kernel_rfl, by kernel_rfl⟩
  f_atom := ⟨by kernel_rfl, by kernel_rfl⟩
  f_integer := ⟨by kernel_rfl, by kernel_rfl⟩
  f_struct := ⟨by kernel_rfl, by kernel_rfl⟩
  f_fixity := ⟨by kernel_rfl, by kernel_rfl⟩
  f_bounds := ⟨by kernel_rfl, by kernel_rfl⟩
  f_ends_operand := ⟨by kernel_rfl, by kernel_rfl⟩
  f_closes := ⟨by kernel_rfl, by kernel_rfl⟩
  f_is_punct := ⟨by kernel_rfl, by kernel_rfl⟩
  f_Symbols := ⟨by kernel_rfl, by kernel_rfl⟩
  f_OperatorTable := ⟨by kernel_rfl, by kernel_rfl⟩
  f_Frame := ⟨by kernel_rfl, by kernel_rfl⟩
  f_Parser := ⟨by kernel_rfl, by kernel_rfl⟩
  f_SyntaxFault := ⟨by kernel_rfl, by kernel_rfl⟩
  f_standard_rows := ⟨by kernel_rfl, by kernel_rfl⟩
  f_law_figures := ⟨by kernel_rfl, by kernel_rfl⟩
  f_law_sides := ⟨by kernel_rfl, by kernel_rfl⟩
  f_law_least := ⟨by kernel_rfl, by kernel_rfl⟩
  f_law_unfold := ⟨by kernel_rfl, by kernel_rfl⟩
  i_COMMA_PRIORITY := ⟨_, by rfl⟩
  i_A_COMMA := ⟨_, by rfl⟩
  i_A_BAR := ⟨_, by rfl⟩
  i_CLAUSE_PRIORITY := ⟨_, by rfl⟩
  i_ARGUMENT_PRIORITY := ⟨_, by rfl⟩
  i_WANT_OPERAND := ⟨_, by rfl⟩
  i_WANT_OPERATOR := ⟨_, by rfl⟩
  i_DONE := ⟨_, by rfl⟩
  i_A_NIL := ⟨_, by rfl⟩
  i_A_CURLY := ⟨_, by rfl⟩
  b_len := ⟨by kernel_rfl, by rfl, by decide, by rfl⟩
  b_range := ⟨by kernel_rfl, by rfl, by decide, by rfl⟩
  b_min := ⟨by kernel_rfl, by rfl, by decide, by rfl⟩
  b_int := ⟨by kernel_rfl, by rfl, by decide, by rfl⟩
  b_tuple := ⟨by kernel_rfl, by rfl, by decide, by rfl⟩
  t_PREFIX_TYPES := GlT.strs (by rfl) (by rfl) rfl rfl (fun h => .cons .strI (.cons .strI (.nil)))
  t_INFIX_TYPES := GlT.strs (by rfl) (by rfl) rfl rfl (fun h => .cons .strI (.cons .strI (.cons .strI (.nil))))
  t_POSTFIX_TYPES := GlT.strs (by rfl) (by rfl) rfl rfl (fun h => .cons .strI (.cons .strI (.nil)))
  t_CLOSERS := GlT.strs (by rfl) (by rfl) rfl rfl (fun h => .cons .strI (.cons .strI (.cons .strI (.nil))))
  t_SEPARATORS := GlT.strs (by rfl) (by rfl) rfl rfl (fun h => .cons .strI (.cons .strI (.nil)))
structure Fs (K : Frag) : Prop where
  sy : SyF K
  op : OpF K
  fr : FrF K
  pa : PaF K
  gl : GlbF K
theorem Fs.of (p : Params) : Fs (KK p) := ⟨.of p, .of p, .of p, .of p, .of p⟩
structure IsG (G : Gl) : Prop where
  k : G.K = KK G.w.params
  g : GOk G
theorem IsG.fs {G : Gl} (I : IsG G) : Fs G.K := by rw [I.k]; exact .of _
theorem FnIn.lit {K : Frag} {a : Addr} {fd : FuncData} {ps ls' gs : List Str} {b b' : List Stmt} (F : FnIn K a fd ps ls' gs b) (e : b = b') : FnIn K a fd ps ls' gs b' := e ▸ F
local macro_rules | `(tactic| walk_at "GA") => `(tactic| with_unfolding_all (first | exact GetAt.here | (apply GetAt.there; walk_at "GA")))
local macro_rules | `(tactic| walk_at "SA") => `(tactic| with_unfolding_all (first | exact SetAt.here | exact SetAt.nil0 | (apply SetAt.there; walk_at "SA") | (apply SetAt.nilS; walk_at "SA")))
local macro_rules | `(tactic| walk_at "M") => `(tactic| first | with_reducible assumption | with_reducible exact List.mem_cons_self | ((with_reducible refine' List.mem_cons_of_mem _ ?k1); (case k1 => walk_at "M")) | ((with_reducible refine' List.mem_append_right _ ?k1); (case k1 => walk_at "M")))
local macro_rules | `(tactic| walk_at "U") => `(tactic| first | with_reducible assumption | with_reducible exact UpdL.here | ((with_reducible refine' UpdL.there ?k1); (case k1 => walk_at "U")) | ((with_reducible refine' UpdL.app ?k1); (case k1 => walk_at "U")))
local macro_rules | `(tactic| walk_at "L") => `(tactic| with_reducible assumption)
local macro_rules | `(tactic| walk_at "FN") => `(tactic| exact ⟨⟨_, _, _, rfl⟩, rfl, rfl, rfl, rfl, rfl, rfl, by kernel_rfl, rfl, ⟨rfl, by decide +kernel⟩, by first | exact bindE (bind1 fun _ => rfl) | exact bindE (bind2 fun _ _ => rfl) | exact bindE (bind3 fun _ _ _ => rfl) | exact bindE (bind4 fun _ _ _ _ => rfl) | exact bindE (bind5 fun _ _ _ _ _ => rfl) | exact bindE (bind0 rfl) | exact bindD3 fun _ _ _ _ X => binds_K X rfl rfl rfl rfl rfl⟩)
local macro_rules | `(tactic| walk_at "S") => `(tactic| first
  | ((with_reducible refine' Xs.cons ?_))
  | ((with_reducible refine' thenX_n ?_))
  | ((with_reducible refine' thenX_r ?_))
  | ((with_reducible refine' thenX_b ?_))
  | ((with_reducible refine' thenX_c ?_))
  | ((with_reducible refine' retX_r ?_))
  | ((with_reducible refine' retX_n ?_))
  | ((with_reducible refine' Ev.name ?k1 ?k2 ?_); (case k1 => walk_at "L"); (case k2 => walk_at "GA"))
  | ((with_reducible refine' Ev.int ?_))
  | ((with_reducible refine' Ev.str ?_))
  | ((with_reducible refine' Ev.boolc ?_))
  | ((with_reducible refine' Ev.nonec ?_))
  | ((with_reducible refine' Ev.globI ?k1 ?k2 ?_); (case k1 => walk_at "L"); (case k2 => walk_at "L"))
  | ((with_reducible refine' Ev.globF ?k1 ?k2 ?_); (case k1 => walk_at "L"); (case k2 => walk_at "L"))
  | ((with_reducible refine' Ev.globT ?k1 ?k2 ?_); (case k1 => walk_at "L"); (case k2 => walk_at "L"))
  | ((with_reducible refine' Xs.assign ?k1 ?k2 ?_); (case k1 => walk_at "L"); (case k2 => exact rfl))
  | ((with_reducible refine' setL ?k1 ?_); (case k1 => walk_at "SA"))
  | ((with_reducible refine' Xs.expr ?k1 ?_); (case k1 => exact rfl))
  | ((with_reducible refine' Xs.ret ?_))
  | ((with_reducible refine' Xs.ite ?_))
  | ((with_reducible refine' Xs.nil ?_))
  | ((with_reducible refine' Xs.pass ?_))
  | ((with_reducible refine' Xs.brk ?_))
  | ((with_reducible refine' Xs.cont ?_))
  | ((with_reducible refine' Ev.bin ?_))
  | ((with_reducible refine' Ev.cmp ?k1 ?_); (case k1 => exact rfl))
  | ((with_reducible refine' Ev.ite ?_))
  | ((with_reducible refine' Ev.neg ?_))
  | ((with_reducible refine' Tt.cmp ?k1 ?_); (case k1 => exact rfl))
  | ((with_reducible refine' Tt.not ?_))
  | ((with_reducible refine' Tt.and ?_))
  | ((with_reducible refine' Tt.or ?_))
  | ((with_reducible refine' Tt.andNil ?_))
  | ((with_reducible refine' Tt.orNil ?_))
  | ((with_reducible refine' Tt.plain ?k1 ?_); (case k1 => exact rfl))
  | ((with_reducible refine' TrAt.bool ?_))
  | ((with_reducible refine' Ev.callF ?k1 ?k2 ?k3 ?_); (case k1 => walk_at "L"); (case k2 => walk_at "L"); (case k3 => exact rfl))
  | ((with_reducible refine' Ev.callB ?k1 ?k2 ?k3 ?_); (case k1 => walk_at "L"); (case k2 => walk_at "L"); (case k3 => exact rfl))
  | ((with_reducible refine' Ev.callM' ?k1 ?k2 ?_); (case k1 => exact rfl); (case k2 => exact rfl))
  | ((with_reducible refine' Ev.attr' ?k1 ?_); (case k1 => exact rfl))
  | ((with_reducible refine' Ev.tuple ?k1 ?k2 ?_); (case k1 => exact rfl); (case k2 => decide))
  | ((with_reducible refine' Ev.list ?k1 ?k2 ?_); (case k1 => exact rfl); (case k2 => decide))
  | ((with_reducible refine' Ev.sliceTo ?_))
  | ((with_reducible refine' Ev.sliceAll ?_))
  | ((with_reducible refine' Ev.sub ?_))
  | ((with_reducible refine' turnX_b ?_))
  | ((with_reducible refine' Ev.and ?_))
  | ((with_reducible refine' Ev.bone ?_))
  | ((with_reducible refine' Xs.unpack ?k1 ?k2 ?_); (case k1 => exact rfl); (case k2 => exact rfl))
  | ((with_reducible refine' unpL ?k1 ?k2 ?_); (case k1 => exact rfl); (case k2 => walk_at "UN"))
  | ((with_reducible refine' Cl.lenT ?k1 ?_); (case k1 => first | decide | (simp; done) | omega))
  | ((with_reducible refine' EvL.cons' ?_))
  | ((with_reducible refine' EvL.nil' ?_))
  | ((with_reducible refine' Op1.at ?k1 ?k2 ?k3 ?k4 ?k5 ?_); (case k1 => walk_at "M"); (case k2 => walk_at "M"); (case k3 => walk_at "L"); (case k4 => walk_at "GA"); (case k5 => first | exact rfl | with_reducible assumption))
  | ((with_reducible refine' mthO ?k1 ?k2 ?k3 ?_); (case k1 => walk_at "M"); (case k2 => walk_at "M"); (case k3 => walk_at "L"))
  | ((with_reducible refine' mthApp ?k1 ?_); (case k1 => walk_at "M"))
  | ((with_reducible refine' mthPop ?k1 ?_); (case k1 => walk_at "M"))
  | ((with_reducible refine' mthGetS ?k1 ?_); (case k1 => walk_at "M"))
  | ((with_reducible refine' mthGetI ?k1 ?_); (case k1 => walk_at "M"))
  | ((with_reducible refine' mthGetT ?k1 ?_); (case k1 => walk_at "M"))
  | ((with_reducible refine' Cl.getS ?k1 ?k2 ?_); (case k1 => first | exact le_n (by with_reducible assumption) (by decide) | omega); (case k2 => walk_at "M"))
  | ((with_reducible refine' Cl.getI ?k1 ?k2 ?_); (case k1 => first | exact le_n (by with_reducible assumption) (by decide) | omega); (case k2 => walk_at "M"))
  | ((with_reducible refine' Cl.getI1 ?k1 ?k2 ?_); (case k1 => first | exact le_n (by with_reducible assumption) (by decide) | omega); (case k2 => walk_at "M"))
  | ((with_reducible refine' Cl.getT2 ?k1 ?k2 ?_); (case k1 => first | exact le_n (by with_reducible assumption) (by decide) | omega); (case k2 => walk_at "M"))
  | ((with_reducible refine' Cl.append ?k1 ?k2 ?_); (case k1 => walk_at "U"); (case k2 => omega))
  | ((with_reducible refine' Cl.pop ?k1 ?k2 ?_); (case k1 => walk_at "U"); (case k2 => omega))
  | ((with_reducible refine' Cl.len ?k1 ?k2 ?_); (case k1 => walk_at "M"); (case k2 => omega))
  | ((with_reducible refine' Xs.setAttr ?k1 ?_); (case k1 => exact rfl))
  | ((with_reducible refine' setAttrX ?k1 ?k2 ?k3 ?k4 ?k5 ?k6 ?k7 ?k8 ?_); (case k1 => exact rfl); (case k2 => walk_at "M"); (case k3 => walk_at "U"); (case k4 => walk_at "L"); (case k5 => walk_at "L"); (case k6 => walk_at "SA"); (case k7 => simp); (case k8 => decide))
  | ((with_reducible refine' Op2.ge ?_))
  | ((with_reducible refine' Op2.gt ?_))
  | ((with_reducible refine' Op2.le ?_))
  | ((with_reducible refine' Op2.lt ?_))
  | ((with_reducible refine' Op2.add ?_))
  | ((with_reducible refine' Op2.sub ?_))
  | ((with_reducible refine' Op2.eqi ?_))
  | ((with_reducible refine' Op2.nei ?_))
  | ((with_reducible refine' Op2.eqs ?_))
  | ((with_reducible refine' Op2.nes ?_))
  | ((with_reducible refine' Op2.isNone ?k1 ?_); (case k1 => first | exact rfl | with_reducible assumption))
  | ((with_reducible refine' Op2.isNotNone ?k1 ?_); (case k1 => first | exact rfl | with_reducible assumption))
  | ((with_reducible refine' Cl.tuple ?_))
  | ((with_reducible refine' Cl.int ?_))
  | ((with_reducible refine' Op2.itT0 ?k1 ?_); (case k1 => exact rfl))
  | ((with_reducible refine' Op2.itT1 ?k1 ?_); (case k1 => exact rfl))
  | ((with_reducible refine' Op2.itT2 ?k1 ?_); (case k1 => exact rfl))
  | with_reducible refine ⟨_, rfl, ?_⟩)
local macro_rules | `(tactic| walk_at "W") => `(tactic| repeat walk_at "S")
local macro_rules | `(tactic| walk_at "E") => `(tactic| first | with_reducible exact Le.refl _ | ((with_reducible refine' Le.skip ?k1); (case k1 => walk_at "E")) | ((with_reducible refine' Le.cut ?k1); (case k1 => walk_at "E")) | ((with_reducible refine' Le.app ?k1); (case k1 => walk_at "E")))
local macro_rules | `(tactic| walk_at "UN") => `(tactic| first | exact UnpN.nil | ((with_reducible refine' UnpN.cons ?k1 ?k2 ?k3); (case k1 => walk_at "L"); (case k2 => walk_at "SA"); (case k3 => walk_at "UN")))
open PySem PySem.W PySem.Calls PyProof.Rows PySem.SeqAt
theorem c_integer {G : Gl} (I : IsG G) {k : Int} {σ : Hp} {Q : AV → Hp → Prop} (q : Q (.tup [.str "i", .int k]) σ) : CallOk G 1 (.ref 180) [.int k] σ Q := by
  refine CallOk.go'' (n := 0) (ps := ["whole"]) (ls' := []) (gs := []) (FnIn.lit (by rw [I.k]; walk_at "FN") (by conv => lhs; whnf)) I.g rfl ?_
  rintro X rfl hn ⟨l0, -⟩ -
  dsimp only [padL, List.map, List.cons_append, List.nil_append, List.length_cons, List.length_nil, List.replicate, Nat.zero_add]
  walk_at "W"
  exact q
theorem c_struct {G : Gl} (I : IsG G) {f : Int} {l : List AV} {σ : Hp} {Q : AV → Hp → Prop} (q : Q (.tup [.str "s", .int f, .tup l]) σ) : CallOk G 1 (.ref 187) [.int f, .tup l] σ Q := by
  refine CallOk.go'' (n := 0) (ps := ["functor", "args"]) (ls' := []) (gs := ["tuple"]) (FnIn.lit (by rw [I.k]; walk_at "FN") (by conv => lhs; whnf)) I.g rfl ?_
  rintro X rfl hn ⟨l0, l1, -⟩ ⟨g0, -⟩
  have q_tuple := I.fs.gl.b_tuple
  dsimp only [padL, List.map, List.cons_append, List.nil_append, List.length_cons, List.length_nil, List.replicate, Nat.zero_add]
  walk_at "W"
  exact q
theorem c_atomt {G : Gl} (I : IsG G) {k : Int} {σ : Hp} {Q : AV → Hp → Prop} (q : Q (.tup [.str "a", .int k]) σ) : CallOk G 1 (.ref 173) [.int k] σ Q := by
  refine CallOk.go'' (n := 0) (ps := ["number"]) (ls' := []) (gs := []) (FnIn.lit (by rw [I.k]; walk_at "FN") (by conv => lhs; whnf)) I.g rfl ?_
  rintro X rfl hn ⟨l0, -⟩ -
  dsimp only [padL, List.map, List.cons_append, List.nil_append, List.length_cons, List.length_nil, List.replicate, Nat.zero_add]
  walk_at "W"
  exact q
open PySem PySem.W PySem.Calls PyProof.Rows PySem.SeqAt
noncomputable def pfx (t : Str) : Bool := [AV.str "fx", .str "fy"].any fun y => y.eqv (.str t)
noncomputable def ifx (t : Str) : Bool := [AV.str "xfx", .str "xfy", .str "yfx"].any fun y => y.eqv (.str t)
noncomputable def sfx (t : Str) : Bool := [AV.str "xf", .str "yf"].any fun y => y.eqv (.str t)
noncomputable def fixK (t : Str) : AV := if pfx t then .str "prefix" else if ifx t then .str "infix" else if sfx t then .str "postfix" else .none
noncomputable def bnd (p : Int) (t : Str) : Int × Int := if t == "fx" then (0, p - 1) else if t == "fy" then (0, p) else if t == "xf" then (p - 1, 0) else if t == "yf" then (p, 0) else if t == "xfy" then (p - 1, p) else if t == "yfx" then (p, p - 1) else (p - 1, p - 1)
theorem c_fixity {G : Gl} (I : IsG G) {t : Str} {σ : Hp} {Q : AV → Hp → Prop} (q : Q (fixK t) σ) : CallOk G 3 (.ref 212) [.str t] σ Q := by
  refine CallOk.go'' (n := 2) (ps := ["type_text"]) (ls' := []) (gs := ["PREFIX_TYPES", "INFIX_TYPES", "POSTFIX_TYPES"]) (FnIn.lit (by rw [I.k]; walk_at "FN") (by conv => lhs; whnf)) I.g rfl ?_
  rintro X rfl hn ⟨l0, -⟩ ⟨g0, g1, g2, -⟩
  have q_PREFIX_TYPES := I.fs.gl.t_PREFIX_TYPES
  have q_INFIX_TYPES := I.fs.gl.t_INFIX_TYPES
  have q_POSTFIX_TYPES := I.fs.gl.t_POSTFIX_TYPES
  dsimp only [padL, List.map, List.cons_append, List.nil_append, List.length_cons, List.length_nil, List.replicate, Nat.zero_add]
  unfold fixK at q
  walk_at "W"
  refine Op2.inT (n := 1) (n' := 0) rfl rfl (by omega) rfl ?_
  walk_at "W"
  refine ifX_c (fun h => ?_) (fun h => ?_)
  · rw [show pfx t = true from h] at q
    walk_at "W"
    exact q
  rw [show pfx t = false from h] at q
  walk_at "W"
  refine Op2.inT (n := 1) (n' := 0) rfl rfl (by omega) rfl ?_
  walk_at "W"
  refine ifX_c (fun h => ?_) (fun h => ?_)
  · rw [show ifx t = true from h] at q
    walk_at "W"
    exact q
  rw [show ifx t = false from h] at q
  walk_at "W"
  refine Op2.inT (n := 1) (n' := 0) rfl rfl (by omega) rfl ?_
  walk_at "W"
  refine ifX_c (fun h => ?_) (fun h => ?_)
  · rw [show sfx t = true from h] at q
    walk_at "W"
    exact q
  rw [show sfx t = false from h] at q
  walk_at "W"
  exact q
theorem c_bounds {G : Gl} (I : IsG G) {p : Int} {t : Str} {σ : Hp} {Q : AV → Hp → Prop} (q : Q (.tup [.int (bnd p t).1, .int (bnd p t).2]) σ) : CallOk G 1 (.ref 219) [.int p, .str t] σ Q := by
  refine CallOk.go'' (n := 0) (ps := ["priority", "type_text"]) (ls' := ["lower"]) (gs := []) (FnIn.lit (by rw [I.k]; walk_at "FN") (by conv => lhs; whnf)) I.g rfl ?_
  rintro X rfl hn ⟨l0, l1, l2, -⟩ -
  dsimp only [padL, List.map, List.cons_append, List.nil_append, List.length_cons, List.length_nil, List.replicate, Nat.zero_add]
  unfold bnd at q
  walk_at "W"
  refine ifX_c (fun h => ?_) (fun h => ?_)
  · rw [h] at q
    walk_at "W"
    exact q
  rw [h] at q
  walk_at "W"
  refine ifX_c (fun h => ?_) (fun h => ?_)
  · rw [h] at q
    walk_at "W"
    exact q
  rw [h] at q
  walk_at "W"
  refine ifX_c (fun h => ?_) (fun h => ?_)
  · rw [h] at q
    walk_at "W"
    exact q
  rw [h] at q
  walk_at "W"
  refine ifX_c (fun h => ?_) (fun h => ?_)
  · rw [h] at q
    walk_at "W"
    exact q
  rw [h] at q
  walk_at "W"
  refine ifX_c (fun h => ?_) (fun h => ?_)
  · rw [h] at q
    walk_at "W"
    exact q
  rw [h] at q
  walk_at "W"
  refine ifX_c (fun h => ?_) (fun h => ?_)
  · rw [h] at q
    walk_at "W"
    exact q
  rw [h] at q
  walk_at "W"
  exact q
theorem c_table_prefix {G : Gl} (I : IsG G) {t : Str} {o od sym pt it st : Addr} {σ : Hp} {Q : AV → Hp → Prop} (ho : (o, .inst 286 od) ∈ σ) (hod : (od, .ns nmOp [some (.ref sym), some (.ref pt), some (.ref it), some (.ref st)]) ∈ σ) (hk : fixK t = .str "prefix") (q : Q (.ref pt) σ) : CallOk G 4 (.ref 269) [.ref o, .str t] σ Q := by
  refine CallOk.go'' (n := 3) (ps := ["self", "type_text"]) (ls' := ["kind"]) (gs := ["fixity"]) (FnIn.lit (by rw [I.k]; walk_at "FN") (by conv => lhs; whnf)) I.g rfl ?_
  rintro X rfl hn ⟨l0, l1, l2, -⟩ ⟨g0, -⟩
  have q_fixity := I.fs.gl.f_fixity
  have aOp_prefixes := I.fs.op.a_prefixes
  have aOp_infixes := I.fs.op.a_infixes
  have aOp_postfixes := I.fs.op.a_postfixes
  dsimp only [padL, List.map, List.cons_append, List.nil_append, List.length_cons, List.length_nil, List.replicate, Nat.zero_add]
  walk_at "W"
  refine Cl.fn' (c_fixity I ?_) (le_n hn (by decide))
  rw [hk]
  walk_at "W"
  refine ifX_t (by decide +kernel) ?_
  walk_at "W"
  exact q
theorem c_add_prefix {G : Gl} (I : IsG G) {t : Str} {p a : Int} {kvs : List (Int × AV)} {σ' : Hp} {o od sym pt it st : Addr} {σ : Hp} {Q : AV → Hp → Prop} (ho : (o, .inst 286 od) ∈ σ) (hod : (od, .ns nmOp [some (.ref sym), some (.ref pt), some (.ref it), some (.ref st)]) ∈ σ) (hk : fixK t = .str "prefix") (hp : 0 < p) (hz : kvs.length ≤ 1000) (u : UpdL pt (.dI kvs) (.dI (aput kvs a (.tup [.int p, .str t]))) σ σ') (q : Q .none σ') : CallOk G 5 (.ref 276) [.ref o, .int p, .str t, .int a] σ Q := by
  refine CallOk.go'' (n := 4) (ps := ["self", "priority", "type_text", "a"]) (ls' := ["table"]) (gs := []) (FnIn.lit (by rw [I.k]; walk_at "FN") (by conv => lhs; whnf)) I.g rfl ?_
  rintro X rfl hn ⟨l0, l1, l2, l3, l4, -⟩ -
  have mOp_table_of := I.fs.op.m_table_of
  dsimp only [padL, List.map, List.cons_append, List.nil_append, List.length_cons, List.length_nil, List.replicate, Nat.zero_add]
  walk_at "W"
  refine Cl.fn' (c_table_prefix I ho hod hk ?_) (le_n hn (by decide))
  walk_at "W"
  refine ifX_t (by simpa using hp) ?_
  walk_at "W"
  refine Xs.setItemI rfl ?_
  walk_at "W"
  refine ⟨_, _, _, _, rfl, rfl, u, by omega, by omega, ?_⟩
  walk_at "W"
  exact q
theorem c_table_infix {G : Gl} (I : IsG G) {t : Str} {o od sym pt it st : Addr} {σ : Hp} {Q : AV → Hp → Prop} (ho : (o, .inst 286 od) ∈ σ) (hod : (od, .ns nmOp [some (.ref sym), some (.ref pt), some (.ref it), some (.ref st)]) ∈ σ) (hk : fixK t = .str "infix") (q : Q (.ref it) σ) : CallOk G 4 (.ref 269) [.ref o, .str t] σ Q := by
  refine CallOk.go'' (n := 3) (ps := ["self", "type_text"]) (ls' := ["kind"]) (gs := ["fixity"]) (FnIn.lit (by rw [I.k]; walk_at "FN") (by conv => lhs; whnf)) I.g rfl ?_
  rintro X rfl hn ⟨l0, l1, l2, -⟩ ⟨g0, -⟩
  have q_fixity := I.fs.gl.f_fixity
  have aOp_prefixes := I.fs.op.a_prefixes
  have aOp_infixes := I.fs.op.a_infixes
  have aOp_postfixes := I.fs.op.a_postfixes
  dsimp only [padL, List.map, List.cons_append, List.nil_append, List.length_cons, List.length_nil, List.replicate, Nat.zero_add]
  walk_at "W"
  refine Cl.fn' (c_fixity I ?_) (le_n hn (by decide))
  rw [hk]
  walk_at "W"
  refine ifX_f (by decide +kernel) ?_
  walk_at "W"
  refine ifX_t (by decide +kernel) ?_
  walk_at "W"
  exact q
theorem c_add_infix {G : Gl} (I : IsG G) {t : Str} {p a : Int} {kvs : List (Int × AV)} {σ' : Hp} {o od sym pt it st : Addr} {σ : Hp} {Q : AV → Hp → Prop} (ho : (o, .inst 286 od) ∈ σ) (hod : (od, .ns nmOp [some (.ref sym), some (.ref pt), some (.ref it), some (.ref st)]) ∈ σ) (hk : fixK t = .str "infix") (hp : 0 < p) (hz : kvs.length ≤ 1000) (u : UpdL it (.dI kvs) (.dI (aput kvs a (.tup [.int p, .str t]))) σ σ') (q : Q .none σ') : CallOk G 5 (.ref 276) [.ref o, .int p, .str t, .int a] σ Q := by
  refine CallOk.go'' (n := 4) (ps := ["self", "priority", "type_text", "a"]) (ls' := ["table"]) (gs := []) (FnIn.lit (by rw [I.k]; walk_at "FN") (by conv => lhs; whnf)) I.g rfl ?_
  rintro X rfl hn ⟨l0, l1, l2, l3, l4, -⟩ -
  have mOp_table_of := I.fs.op.m_table_of
  dsimp only [padL, List.map, List.cons_append, List.nil_append, List.length_cons, List.length_nil, List.replicate, Nat.zero_add]
  walk_at "W"
  refine Cl.fn' (c_table_infix I ho hod hk ?_) (le_n hn (by decide))
  walk_at "W"
  refine ifX_t (by simpa using hp) ?_
  walk_at "W"
  refine Xs.setItemI rfl ?_
  walk_at "W"
  refine ⟨_, _, _, _, rfl, rfl, u, by omega, by omega, ?_⟩
  walk_at "W"
  exact q
theorem c_table_postfix {G : Gl} (I : IsG G) {t : Str} {o od sym pt it st : Addr} {σ : Hp} {Q : AV → Hp → Prop} (ho : (o, .inst 286 od) ∈ σ) (hod : (od, .ns nmOp [some (.ref sym), some (.ref pt), some (.ref it), some (.ref st)]) ∈ σ) (hk : fixK t = .str "postfix") (q : Q (.ref st) σ) : CallOk G 4 (.ref 269) [.ref o, .str t] σ Q := by
  refine CallOk.go'' (n := 3) (ps := ["self", "type_text"]) (ls' := ["kind"]) (gs := ["fixity"]) (FnIn.lit (by rw [I.k]; walk_at "FN") (by conv => lhs; whnf)) I.g rfl ?_
  rintro X rfl hn ⟨l0, l1, l2, -⟩ ⟨g0, -⟩
  have q_fixity := I.fs.gl.f_fixity
  have aOp_prefixes := I.fs.op.a_prefixes
  have aOp_infixes := I.fs.op.a_infixes
  have aOp_postfixes := I.fs.op.a_postfixes
  dsimp only [padL, List.map, List.cons_append, List.nil_append, List.length_cons, List.length_nil, List.replicate, Nat.zero_add]
  walk_at "W"
  refine Cl.fn' (c_fixity I ?_) (le_n hn (by decide))
  rw [hk]
  walk_at "W"
  refine ifX_f (by decide +kernel) ?_
  walk_at "W"
  refine ifX_f (by decide +kernel) ?_
  walk_at "W"
  exact q
theorem c_add_postfix {G : Gl} (I : IsG G) {t : Str} {p a : Int} {kvs : List (Int × AV)} {σ' : Hp} {o od sym pt it st : Addr} {σ : Hp} {Q : AV → Hp → Prop} (ho : (o, .inst 286 od) ∈ σ) (hod : (od, .ns nmOp [some (.ref sym), some (.ref pt), some (.ref it), some (.ref st)]) ∈ σ) (hk : fixK t = .str "postfix") (hp : 0 < p) (hz : kvs.length ≤ 1000) (u : UpdL st (.dI kvs) (.dI (aput kvs a (.tup [.int p, .str t]))) σ σ') (q : Q .none σ') : CallOk G 5 (.ref 276) [.ref o, .int p, .str t, .int a] σ Q := by
  refine CallOk.go'' (n := 4) (ps := ["self", "priority", "type_text", "a"]) (ls' := ["table"]) (gs := []) (FnIn.lit (by rw [I.k]; walk_at "FN") (by conv => lhs; whnf)) I.g rfl ?_
  rintro X rfl hn ⟨l0, l1, l2, l3, l4, -⟩ -
  have mOp_table_of := I.fs.op.m_table_of
  dsimp only [padL, List.map, List.cons_append, List.nil_append, List.length_cons, List.length_nil, List.replicate, Nat.zero_add]
  walk_at "W"
  refine Cl.fn' (c_table_postfix I ho hod hk ?_) (le_n hn (by decide))
  walk_at "W"
  refine ifX_t (by simpa using hp) ?_
  walk_at "W"
  refine Xs.setItemI rfl ?_
  walk_at "W"
  refine ⟨_, _, _, _, rfl, rfl, u, by omega, by omega, ?_⟩
  walk_at "W"
  exact q
theorem c_op_prefix {G : Gl} (I : IsG G) {a : Int} {kvs : List (Int × AV)} {o od sym pt it st : Addr} {σ : Hp} {Q : AV → Hp → Prop} (ho : (o, .inst 286 od) ∈ σ) (hod : (od, .ns nmOp [some (.ref sym), some (.ref pt), some (.ref it), some (.ref st)]) ∈ σ) (ht : (pt, .dI kvs) ∈ σ) (q : Q ((aget kvs a).getD .none) σ) : CallOk G 2 (.ref 241) [.ref o, .int a] σ Q := by
  refine CallOk.go'' (n := 1) (ps := ["self", "a"]) (ls' := []) (gs := []) (FnIn.lit (by rw [I.k]; walk_at "FN") (by conv => lhs; whnf)) I.g rfl ?_
  rintro X rfl hn ⟨l0, l1, -⟩ -
  have aOp_prefixes := I.fs.op.a_prefixes
  dsimp only [padL, List.map, List.cons_append, List.nil_append, List.length_cons, List.length_nil, List.replicate, Nat.zero_add]
  walk_at "W"
  exact q
theorem c_op_infix {G : Gl} (I : IsG G) {a : Int} {kvs : List (Int × AV)} {o od sym pt it st : Addr} {σ : Hp} {Q : AV → Hp → Prop} (ho : (o, .inst 286 od) ∈ σ) (hod : (od, .ns nmOp [some (.ref sym), some (.ref pt), some (.ref it), some (.ref st)]) ∈ σ) (ht : (it, .dI kvs) ∈ σ) (q : Q ((aget kvs a).getD .none) σ) : CallOk G 2 (.ref 248) [.ref o, .int a] σ Q := by
  refine CallOk.go'' (n := 1) (ps := ["self", "a"]) (ls' := []) (gs := []) (FnIn.lit (by rw [I.k]; walk_at "FN") (by conv => lhs; whnf)) I.g rfl ?_
  rintro X rfl hn ⟨l0, l1, -⟩ -
  have aOp_infixes := I.fs.op.a_infixes
  dsimp only [padL, List.map, List.cons_append, List.nil_append, List.length_cons, List.length_nil, List.replicate, Nat.zero_add]
  walk_at "W"
  exact q
theorem c_op_postfix {G : Gl} (I : IsG G) {a : Int} {kvs : List (Int × AV)} {o od sym pt it st : Addr} {σ : Hp} {Q : AV → Hp → Prop} (ho : (o, .inst 286 od) ∈ σ) (hod : (od, .ns nmOp [some (.ref sym), some (.ref pt), some (.ref it), some (.ref st)]) ∈ σ) (ht : (st, .dI kvs) ∈ σ) (q : Q ((aget kvs a).getD .none) σ) : CallOk G 2 (.ref 255) [.ref o, .int a] σ Q := by
  refine CallOk.go'' (n := 1) (ps := ["self", "a"]) (ls' := []) (gs := []) (FnIn.lit (by rw [I.k]; walk_at "FN") (by conv => lhs; whnf)) I.g rfl ?_
  rintro X rfl hn ⟨l0, l1, -⟩ -
  have aOp_postfixes := I.fs.op.a_postfixes
  dsimp only [padL, List.map, List.cons_append, List.nil_append, List.length_cons, List.length_nil, List.replicate, Nat.zero_add]
  walk_at "W"
  exact q
theorem c_functor {G : Gl} (I : IsG G) {a n k : Int} {kvs : List (List Int × AV)} {x dx tl an fl fn : Addr} {σ : Hp} {Q : AV → Hp → Prop} (hx : (x, .inst 154 dx) ∈ σ) (hd : (dx, .ns nmSy [some (.ref tl), some (.ref an), some (.ref fl), some (.ref fn)]) ∈ σ) (hf : (fn, .dT kvs) ∈ σ) (hk : aget kvs [a, n] = some (.int k)) (h0 : 0 ≤ k) (q : Q (.int k) σ) : CallOk G 2 (.ref 102) [.ref x, .int a, .int n] σ Q := by
  refine CallOk.go'' (n := 1) (ps := ["self", "atom", "arity"]) (ls' := ["key", "found", "number"]) (gs := ["len"]) (FnIn.lit (by rw [I.k]; walk_at "FN") (by conv => lhs; whnf)) I.g rfl ?_
  rintro X rfl hn ⟨l0, l1, l2, l3, l4, l5, -⟩ ⟨g0, -⟩
  have q_len := I.fs.gl.b_len
  have aSy_functors := I.fs.sy.a_functors
  have aSy_functor_numbers := I.fs.sy.a_functor_numbers
  dsimp only [padL, List.map, List.cons_append, List.nil_append, List.length_cons, List.length_nil, List.replicate, Nat.zero_add]
  walk_at "W"
  rw [hk, Option.getD_some]
  walk_at "W"
  refine ifX_t (by simpa using h0) ?_
  walk_at "W"
  exact q
theorem c_functor_new {G : Gl} (I : IsG G) {a n : Int} {fs : List AV} {kvs : List (List Int × AV)} {σ₁ σ₂ : Hp} {x dx tl an fl fn : Addr} {σ : Hp} {Q : AV → Hp → Prop} (hx : (x, .inst 154 dx) ∈ σ) (hd : (dx, .ns nmSy [some (.ref tl), some (.ref an), some (.ref fl), some (.ref fn)]) ∈ σ) (hf : (fn, .dT kvs) ∈ σ) (hl : (fl, .list fs) ∈ σ) (hk : aget kvs [a, n] = none) (u1 : UpdL fl (.list fs) (.list (fs ++ [.tup [.int a, .int n]])) σ σ₁) (hx1 : (x, .inst 154 dx) ∈ σ₁) (hd1 : (dx, .ns nmSy [some (.ref tl), some (.ref an), some (.ref fl), some (.ref fn)]) ∈ σ₁) (u2 : UpdL fn (.dT kvs) (.dT (aput kvs [a, n] (.int fs.length))) σ₁ σ₂) (hz : fs.length ≤ 1000) (hz2 : kvs.length ≤ 1000) (q : Q (.int fs.length) σ₂) : CallOk G 2 (.ref 102) [.ref x, .int a, .int n] σ Q := by
  refine CallOk.go'' (n := 1) (ps := ["self", "atom", "arity"]) (ls' := ["key", "found", "number"]) (gs := ["len"]) (FnIn.lit (by rw [I.k]; walk_at "FN") (by conv => lhs; whnf)) I.g rfl ?_
  rintro X rfl hn ⟨l0, l1, l2, l3, l4, l5, -⟩ ⟨g0, -⟩
  have q_len := I.fs.gl.b_len
  have aSy_functors := I.fs.sy.a_functors
  have aSy_functor_numbers := I.fs.sy.a_functor_numbers
  dsimp only [padL, List.map, List.cons_append, List.nil_append, List.length_cons, List.length_nil, List.replicate, Nat.zero_add]
  walk_at "W"
  rw [hk, Option.getD_none]
  walk_at "W"
  refine ifX_f (by decide) ?_
  walk_at "W"
  refine Xs.setItemT rfl ?_
  walk_at "W"
  refine ⟨_, _, [a, n], _, rfl, rfl, u2, by omega, by omega, ?_⟩
  walk_at "W"
  exact q
theorem sy_atom {G : Gl} (I : IsG G) {x dx tl an fl fn : Addr} {t : Str} {k : Int} {kvs : List (Str × AV)} {σ : Hp} {Q : AV → Hp → Prop} (hx : (x, .inst 154 dx) ∈ σ) (hd : (dx, .ns nmSy [some (.ref tl), some (.ref an), some (.ref fl), some (.ref fn)]) ∈ σ)
  (ha : (an, .dS kvs) ∈ σ) (hk : aget kvs t = some (.int k)) (h0 : 0 ≤ k) (q : Q (.int k) σ) : CallOk G 2 (.ref 88) [.ref x, .str t] σ Q := by
  have q_len := I.fs.gl.b_len
  have aSy_texts := I.fs.sy.a_texts
  have aSy_atom_numbers := I.fs.sy.a_atom_numbers
  refine CallOk.go'' (n := 1) (ps := ["self", "text"]) (ls' := ["found", "number"]) (gs := ["len"]) (FnIn.lit (by rw [I.k]; walk_at "FN") (by conv => lhs; whnf)) I.g rfl ?_
  rintro X rfl hn ⟨l0, l1, l2, l3, -⟩ ⟨g0, -⟩
  dsimp only [padL, List.map, List.cons_append, List.nil_append, List.length_cons, List.length_nil, List.replicate, Nat.zero_add]
  repeat walk_at "S"
  rw [hk, Option.getD_some]
  repeat walk_at "S"
  refine ifX_t (by simpa using h0) ?_
  repeat walk_at "S"
  exact q
theorem sy_atom_new {G : Gl} (I : IsG G) {x dx tl an fl fn : Addr} {t : Str} {ts : List AV} {kvs : List (Str × AV)} {σ σ₁ σ₂ : Hp} {Q : AV → Hp → Prop} (hx : (x, .inst 154 dx) ∈ σ) (hd : (dx, .ns nmSy [some (.ref tl), some (.ref an), some (.ref fl), some (.ref fn)]) ∈ σ)
  (ha : (an, .dS kvs) ∈ σ) (ht : (tl, .list ts) ∈ σ) (hx1 : (x, .inst 154 dx) ∈ σ₁) (hd1 : (dx, .ns nmSy [some (.ref tl), some (.ref an), some (.ref fl), some (.ref fn)]) ∈ σ₁) (hk : aget kvs t = none) (hz : ts.length ≤ 1000) (hz2 : kvs.length ≤ 1000) (u1 : UpdL tl (.list ts) (.list (ts ++ [.str t])) σ σ₁)
  (u2 : UpdL an (.dS kvs) (.dS (aput kvs t (.int ts.length))) σ₁ σ₂) (q : Q (.int ts.length) σ₂) : CallOk G 2 (.ref 88) [.ref x, .str t] σ Q := by
  have q_len := I.fs.gl.b_len
  have aSy_texts := I.fs.sy.a_texts
  have aSy_atom_numbers := I.fs.sy.a_atom_numbers
  refine CallOk.go'' (n := 1) (ps := ["self", "text"]) (ls' := ["found", "number"]) (gs := ["len"]) (FnIn.lit (by rw [I.k]; walk_at "FN") (by conv => lhs; whnf)) I.g rfl ?_
  rintro X rfl hn ⟨l0, l1, l2, l3, -⟩ ⟨g0, -⟩
  dsimp only [padL, List.map, List.cons_append, List.nil_append, List.length_cons, List.length_nil, List.replicate, Nat.zero_add]
  repeat walk_at "S"
  rw [hk, Option.getD_none]
  repeat walk_at "S"
  refine ifX_f (by decide) ?_
  repeat walk_at "S"
  refine Xs.setItemS rfl ?_
  repeat walk_at "S"
  refine ⟨_, _, _, _, rfl, rfl, u2, by omega, by omega, ?_⟩
  repeat walk_at "S"
  exact q
theorem c_func {G : Gl} (I : IsG G) {t : Str} {a n : Int} {fs : List AV} {kvs : List (List Int × AV)} {avs : List (Str × AV)} {σ₁ σ₂ : Hp} {x dx tl an fl fn : Addr} {σ : Hp} {Q : AV → Hp → Prop} (hx : (x, .inst 154 dx) ∈ σ) (hd : (dx, .ns nmSy [some (.ref tl), some (.ref an), some (.ref fl), some (.ref fn)]) ∈ σ) (ha : (an, .dS avs) ∈ σ) (hk0 : aget avs t = some (.int a)) (h0 : 0 ≤ a) (hf : (fn, .dT kvs) ∈ σ) (hl : (fl, .list fs) ∈ σ) (hk : aget kvs [a, n] = none) (u1 : UpdL fl (.list fs) (.list (fs ++ [.tup [.int a, .int n]])) σ σ₁) (hx1 : (x, .inst 154 dx) ∈ σ₁) (hd1 : (dx, .ns nmSy [some (.ref tl), some (.ref an), some (.ref fl), some (.ref fn)]) ∈ σ₁) (u2 : UpdL fn (.dT kvs) (.dT (aput kvs [a, n] (.int fs.length))) σ₁ σ₂) (hz : fs.length ≤ 1000) (hz2 : kvs.length ≤ 1000) (q : Q (.int fs.length) σ₂) : CallOk G 3 (.ref 109) [.ref x, .str t, .int n] σ Q := by
  refine CallOk.go'' (n := 2) (ps := ["self", "text", "arity"]) (ls' := []) (gs := []) (FnIn.lit (by rw [I.k]; walk_at "FN") (by conv => lhs; whnf)) I.g rfl ?_
  rintro X rfl hn ⟨l0, l1, l2, -⟩ -
  have mSy_atom := I.fs.sy.m_atom
  have mSy_functor := I.fs.sy.m_functor
  have aFr_functor := I.fs.fr.a_functor
  dsimp only [padL, List.map, List.cons_append, List.nil_append, List.length_cons, List.length_nil, List.replicate, Nat.zero_add]
  walk_at "W"
  refine Cl.fn' (sy_atom I hx hd ha hk0 h0 ?_) (le_n hn (by decide))
  walk_at "W"
  refine Cl.fn' (c_functor_new I hx hd hf hl hk u1 hx1 hd1 u2 hz hz2 ?_) (le_n hn (by decide))
  walk_at "W"
  exact q
theorem c_Frame_init {G : Gl} (I : IsG G) {x dx : Addr} {kind : Str} {lim : Int} {R : Hp} {Q : AV → Hp → Prop} (q : ∀ il, Q .none ((il, .list []) :: (x, .inst 309 dx) :: (dx, .ns nmFr [some (.str kind), some (.int lim), some (.int (-1)), some (.int (-1)), some (.int 0), some .none, some (.ref il)]) :: R)) : CallOk G 1 (.ref 306) [.ref x, .str kind, .int lim] ((x, .inst 309 dx) :: (dx, .ns nmFr []) :: R) Q := by
  refine CallOk.go'' (n := 0) (ps := ["self", "kind", "limit"]) (ls' := []) (gs := []) (FnIn.lit (by rw [I.k]; walk_at "FN") (by conv => lhs; whnf)) I.g rfl ?_
  rintro X rfl hn ⟨l0, l1, l2, -⟩ -
  have mSy_functor := I.fs.sy.m_functor
  have aFr_kind := I.fs.fr.a_kind
  have aFr_limit := I.fs.fr.a_limit
  have aFr_functor := I.fs.fr.a_functor
  have aFr_name := I.fs.fr.a_name
  have aFr_priority := I.fs.fr.a_priority
  have aFr_left := I.fs.fr.a_left
  have aFr_items := I.fs.fr.a_items
  have stFr := I.fs.fr.st
  have aPa_limit := I.fs.pa.a_limit
  have aPa_priority := I.fs.pa.a_priority
  have stPa := I.fs.pa.st
  dsimp only [padL, List.map, List.cons_append, List.nil_append, List.length_cons, List.length_nil, List.replicate, Nat.zero_add]
  walk_at "W"
  intro il _
  walk_at "W"
  exact q il
open PySem PySem.W PySem.Calls PyProof.Rows PySem.SeqAt
noncomputable def fixA : List Str := ["[]", ".", "{}", "-", "+", "*", "/", ",", "|", ";", "->", "\\+", ":-", "?-", "-->", "!", "true", "fail", "false", "call", "=", "^", "error", "", "end_of_file", "system", "$VAR", "catch", "throw"]
noncomputable def fixF : List (Str × Int) := [(".", 2), (",", 2), (";", 2), ("->", 2), ("\\+", 1), (":-", 2), (":-", 1), ("?-", 1), ("-->", 2), ("{}", 1), ("=", 2), ("^", 2), ("-", 1), ("-", 2), ("+", 2), ("/", 2), ("error", 2), ("$VAR", 1), ("catch", 3), ("throw", 1), ("!", 0), ("true", 0), ("fail", 0), ("false", 0), ("call", 1), ("call", 2), ("call", 3), ("call", 4), ("call", 5), ("call", 6), ("call", 7), ("call", 8)]
noncomputable def fnK : List (Int × Int) := [(1, 2), (7, 2), (9, 2), (10, 2), (11, 1), (12, 2), (12, 1), (13, 1), (14, 2), (2, 1), (20, 2), (21, 2), (3, 1), (3, 2), (4, 2), (6, 2), (22, 2), (26, 1), (27, 3), (28, 1), (15, 0), (16, 0), (17, 0), (18, 0), (19, 1), (19, 2), (19, 3), (19, 4), (19, 5), (19, 6), (19, 7), (19, 8)]
theorem fixA_nd : fixA.Nodup := by decide +kernel
theorem fnK_nd : fnK.Nodup := by decide +kernel
theorem fixFK : (fixF.zip fnK).all (fun p => p.1.2 == p.2.2 && fixA[p.2.1.toNat]? == some p.1.1 && decide (0 ≤ p.2.1)) = true := by decide +kernel
noncomputable def anD (ts : List Str) : List (Str × AV) := ts.zipIdx.map fun p => (p.1, .int p.2)
noncomputable def fnD (fk : List (Int × Int)) : List (List Int × AV) := fk.zipIdx.map fun p => ([p.1.1, p.1.2], .int p.2)
noncomputable def flD (fk : List (Int × Int)) : List AV := fk.map fun p => .tup [.int p.1, .int p.2]
theorem anD_keys (ts : List Str) : (anD ts).map (·.1) = ts := by
  unfold anD; rw [List.map_map]; show ts.zipIdx.map (fun p => p.1) = ts; simp
theorem anD_len (ts : List Str) : (anD ts).length = ts.length := by unfold anD; simp
theorem fnD_len (ts : List (Int × Int)) : (fnD ts).length = ts.length := by unfold fnD; simp
theorem flD_len (ts : List (Int × Int)) : (flD ts).length = ts.length := by unfold flD; simp
theorem anD_none {ts : List Str} {t : Str} (h : t ∉ ts) : aget (anD ts) t = none := aget_none (by rw [anD_keys]; exact h)
theorem anD_put {ts : List Str} {t : Str} (h : t ∉ ts) : aput (anD ts) t (.int ts.length) = anD (ts ++ [t]) := by
  rw [aput_new (by rw [anD_keys]; exact h)]
  unfold anD; simp [List.zipIdx_append]
theorem anD_get {ts : List Str} (nd : ts.Nodup) {j : Nat} {t : Str} (h : ts[j]? = some t) : aget (anD ts) t = some (.int j) :=
  aget_at (i := j) (by rw [anD_keys]; exact nd) (by unfold anD; simp [List.getElem?_map, List.getElem?_zipIdx, h])
theorem fnD_keys (ts : List (Int × Int)) : (fnD ts).map (·.1) = ts.map fun p => [p.1, p.2] := by
  have : ∀ (l : List (Int × Int)) (k : Nat), ((l.zipIdx k).map fun p => (([p.1.1, p.1.2] : List Int), AV.int p.2)).map (·.1) = l.map fun p => [p.1, p.2] := by
    intro l
    induction l with
    | nil => intro k; rfl
    | cons a l ih => intro k; simp only [List.zipIdx_cons, List.map_cons, ih]
  exact this ts 0
theorem pair_inj {a b : Int × Int} (h : ([a.1, a.2] : List Int) = [b.1, b.2]) : a = b := by
  obtain ⟨a1, a2⟩ := a; obtain ⟨b1, b2⟩ := b; simp at h; simp [h]
theorem fnD_no {ts : List (Int × Int)} {p : Int × Int} (h : p ∉ ts) : [p.1, p.2] ∉ (fnD ts).map (·.1) := by
  rw [fnD_keys]; intro q; obtain ⟨x, hx, e⟩ := List.mem_map.mp q; exact h (pair_inj e ▸ hx)
theorem fnD_none {ts : List (Int × Int)} {a n : Int} (h : (a, n) ∉ ts) : aget (fnD ts) [a, n] = none := aget_none (fnD_no h)
theorem fnD_put {ts : List (Int × Int)} {a n : Int} (h : (a, n) ∉ ts) : aput (fnD ts) [a, n] (.int ts.length) = fnD (ts ++ [(a, n)]) := by
  rw [aput_new (fnD_no h)]
  unfold fnD; simp [List.zipIdx_append]
theorem fnD_get {ts : List (Int × Int)} (nd : ts.Nodup) {j : Nat} {a n : Int} (h : ts[j]? = some (a, n)) : aget (fnD ts) [a, n] = some (.int j) := by
  refine aget_at (i := j) ?_ (by unfold fnD; simp [List.getElem?_map, List.getElem?_zipIdx, h])
  rw [fnD_keys]
  exact List.pairwise_map.mpr (nd.imp fun hne e => hne (pair_inj e))
theorem take_not {α : Type} {L : List α} (nd : L.Nodup) {i : Nat} {a : α} (h : L[i]? = some a) : a ∉ L.take i := by
  intro q
  obtain ⟨j, hj, e⟩ := List.mem_iff_getElem.mp q
  obtain ⟨hlt, e2⟩ := List.getElem?_eq_some_iff.mp h
  rw [List.length_take] at hj
  rw [List.getElem_take] at e
  have h2 : j < L.length := by omega
  have := (List.getElem_inj (h₀ := h2) (h₁ := hlt) nd).mp (e.trans e2.symm)
  omega
theorem c_fixed_atoms {G : Gl} (I : IsG G) {σ : Hp} {Q : AV → Hp → Prop} (q : Q (.tup (fixA.map .str)) σ) : CallOk G 1 (.ref 60) [] σ Q := by
  refine CallOk.go'' (n := 0) (ps := []) (ls' := []) (gs := []) (FnIn.lit (by rw [I.k]; walk_at "FN") (by conv => lhs; whnf)) I.g rfl ?_
  rintro X rfl hn - -
  dsimp only [padL, List.map, List.cons_append, List.nil_append, List.length_cons, List.length_nil, List.replicate, Nat.zero_add]
  walk_at "W"
  exact q
theorem c_fixed_functors {G : Gl} (I : IsG G) {σ : Hp} {Q : AV → Hp → Prop} (q : Q (.tup (fixF.map fun p => .tup [.str p.1, .int p.2])) σ) : CallOk G 1 (.ref 67) [] σ Q := by
  refine CallOk.go'' (n := 0) (ps := []) (ls' := []) (gs := []) (FnIn.lit (by rw [I.k]; walk_at "FN") (by conv => lhs; whnf)) I.g rfl ?_
  rintro X rfl hn - -
  dsimp only [padL, List.map, List.cons_append, List.nil_append, List.length_cons, List.length_nil, List.replicate, Nat.zero_add]
  walk_at "W"
  exact q
theorem op_cast {σ : Hp} {Q : AV → Hp → Prop} {a b : AV} (e : a = b) (h : Q b σ) : Q a σ := e ▸ h
/-- what Symbols hold -/
noncomputable abbrev syS (tl an fl fn : Addr) (ts : List Str) (fk : List (Int × Int)) (R : Hp) : Hp := (fn, .dT (fnD fk)) :: (fl, .list (flD fk)) :: (an, .dS (anD ts)) :: (tl, .list (ts.map .str)) :: R
theorem c_Symbols_init {G : Gl} (I : IsG G) {x dx : Addr} {R : Hp} {Q : AV → Hp → Prop} (q : ∀ tl an fl fn, Q .none (syS tl an fl fn fixA fnK ((x, .inst 154 dx) :: (dx, .ns nmSy [some (.ref tl), some (.ref an), some (.ref fl), some (.ref fn)]) :: R))) : CallOk G 5 (.ref 81) [.ref x] ((x, .inst 154 dx) :: (dx, .ns nmSy []) :: R) Q := by
  refine CallOk.go'' (n := 4) (ps := ["self"]) (ls' := ["text", "row"]) (gs := ["fixed_atoms", "fixed_functors"]) (FnIn.lit (by rw [I.k]; walk_at "FN") (by conv => lhs; whnf)) I.g rfl ?_
  rintro X rfl hn ⟨l0, l1, l2, -⟩ ⟨g0, g1, -⟩
  have q_fixed_atoms := I.fs.gl.f_fixed_atoms
  have q_fixed_functors := I.fs.gl.f_fixed_functors
  have aSy_texts := I.fs.sy.a_texts
  have aSy_atom_numbers := I.fs.sy.a_atom_numbers
  have aSy_functors := I.fs.sy.a_functors
  have aSy_functor_numbers := I.fs.sy.a_functor_numbers
  have mSy_atom := I.fs.sy.m_atom
  have mSy_func := I.fs.sy.m_func
  have stSy := I.fs.sy.st
  dsimp only [padL, List.map, List.cons_append, List.nil_append, List.length_cons, List.length_nil, List.replicate, Nat.zero_add]
  walk_at "W"
  intro tl _
  walk_at "W"
  refine Ev.dictS fun an => ?_
  walk_at "W"
  intro fl _
  walk_at "W"
  refine Ev.dictT fun fn => ?_
  walk_at "W"
  refine Xs.forTup (by walk_at "L") (fun _ => rfl) ?_
  walk_at "W"
  refine Cl.fn' (c_fixed_atoms I ?_) (le_n hn (by decide))
  refine ⟨_, rfl, fun i m σ => ∃ p, m = [some (.ref x), p, none] ∧ σ = syS tl an fl fn (fixA.take i) [] ((x, .inst 154 dx) :: (dx, .ns nmSy [some (.ref tl), some (.ref an), some (.ref fl), some (.ref fn)]) :: R), ⟨_, rfl, rfl⟩, ?_, ?_⟩
  · rintro i a m σ ha ⟨p, rfl, rfl⟩
    rw [List.getElem?_map] at ha
    obtain ⟨t, ht, rfl⟩ := Option.map_eq_some_iff.mp ha
    have hi : i < 29 := (List.getElem?_eq_some_iff.mp ht).1
    have hni := take_not fixA_nd ht
    have hlen : (fixA.take i).length = i := by rw [List.length_take]; exact Nat.min_eq_left (Nat.le_of_lt hi)
    refine ⟨_, .there .here, ?_⟩
    walk_at "W"
    refine Cl.fn' (sy_atom_new I (x := x) (dx := dx) (tl := tl) (an := an) (fl := fl) (fn := fn) (ts := (fixA.take i).map .str) (kvs := anD (fixA.take i)) (by walk_at "M") (by walk_at "M") (by walk_at "M") (by walk_at "M") (by walk_at "M") (by walk_at "M") (anD_none hni) (by rw [List.length_map, hlen]; omega) (by rw [anD_len, hlen]; omega) (.there (.there (.there .here))) (.there (.there .here)) ?_) (le_n hn (by decide))
    walk_at "W"
    refine ⟨_, rfl, ?_⟩
    rw [List.length_map, anD_put hni, take_succ_eq ht]
    dsimp only [syS]
    rw [List.map_append]
    rfl
  · rintro m σ ⟨p, rfl, rfl⟩
    rw [List.length_map, List.take_of_length_le (Nat.le_refl _)]
    walk_at "W"
    refine Xs.forTup (by walk_at "L") (fun _ => rfl) ?_
    walk_at "W"
    refine Cl.fn' (c_fixed_functors I ?_) (le_n hn (by decide))
    refine ⟨_, rfl, fun i m σ => ∃ p p', m = [some (.ref x), p, p'] ∧ σ = syS tl an fl fn fixA (fnK.take i) ((x, .inst 154 dx) :: (dx, .ns nmSy [some (.ref tl), some (.ref an), some (.ref fl), some (.ref fn)]) :: R), ⟨_, _, rfl, rfl⟩, ?_, ?_⟩
    · rintro i a m σ ha ⟨p, p', rfl, rfl⟩
      rw [List.getElem?_map] at ha
      obtain ⟨⟨t, n⟩, ht, rfl⟩ := Option.map_eq_some_iff.mp ha
      have hi : i < 32 := (List.getElem?_eq_some_iff.mp ht).1
      obtain ⟨⟨k, n'⟩, hk⟩ : ∃ y, fnK[i]? = some y := ⟨fnK[i]'hi, List.getElem?_eq_getElem _⟩
      have hf := List.all_eq_true.mp fixFK ((t, n), (k, n')) (List.mem_of_getElem? (i := i) (List.getElem?_zip_eq_some.mpr ⟨ht, hk⟩))
      simp only [Bool.and_eq_true, beq_iff_eq, decide_eq_true_eq] at hf
      obtain ⟨⟨rfl, hf2⟩, hf3⟩ := hf
      have hni := take_not fnK_nd hk
      have hlen : (fnK.take i).length = i := by rw [List.length_take]; exact Nat.min_eq_left (Nat.le_of_lt hi)
      have hget := anD_get fixA_nd hf2
      rw [Int.toNat_of_nonneg hf3] at hget
      refine ⟨_, .there (.there .here), ?_⟩
      walk_at "W"
      refine Cl.fn' (c_func I (x := x) (dx := dx) (tl := tl) (an := an) (fl := fl) (fn := fn) (fs := flD (fnK.take i)) (kvs := fnD (fnK.take i)) (by walk_at "M") (by walk_at "M") (by walk_at "M") hget hf3 (by walk_at "M") (by walk_at "M") (fnD_none hni) (.there .here) (by walk_at "M") (by walk_at "M") .here (by rw [flD_len, hlen]; omega) (by rw [fnD_len, hlen]; omega) ?_) (le_n hn (by decide))
      walk_at "W"
      refine ⟨_, _, rfl, ?_⟩
      rw [flD_len, fnD_put hni, take_succ_eq hk]
      dsimp only [syS, flD]
      rw [List.map_append]
      rfl
    · rintro m σ ⟨p, p', rfl, rfl⟩
      rw [List.length_map, show fixF.length = fnK.length from rfl, List.take_length]
      walk_at "W"
      exact q tl an fl fn
open PySem PySem.W PySem.Calls PyProof.Rows PySem.SeqAt
structure MkF (K : Frag) : Prop where
  sy : ClsIn K 154 81
  op : ClsIn K 286 234
  fr : ClsIn K 309 306
  pa : ClsIn K 517 348
theorem IsG.mkf {G : Gl} (I : IsG G) : MkF G.K := by rw [I.k]; exact ⟨⟨by kernel_rfl, by kernel_rfl, by kernel_rfl⟩, ⟨by kernel_rfl, by kernel_rfl, by kernel_rfl⟩, ⟨by kernel_rfl, by kernel_rfl, by kernel_rfl⟩, ⟨by kernel_rfl, by kernel_rfl, by kernel_rfl⟩⟩
theorem mk_Symbols {G : Gl} (I : IsG G) {σ : Hp} {Q : AV → Hp → Prop} (q : ∀ x dx tl an fl fn, Q (.ref x) (syS tl an fl fn fixA fnK ((x, .inst 154 dx) :: (dx, .ns nmSy [some (.ref tl), some (.ref an), some (.ref fl), some (.ref fn)]) :: σ))) : CallOk G 6 (.ref 154) [] σ Q :=
  .make' nmSy I.g I.mkf.sy fun x dx => c_Symbols_init I fun tl an fl fn => ⟨rfl, q x dx tl an fl fn⟩
/-- what an OperatorTable holds -/
noncomputable abbrev opS (o od sym pt it st : Addr) (kp ki ks : List (Int × AV)) (R : Hp) : Hp := (st, .dI ks) :: (it, .dI ki) :: (pt, .dI kp) :: (o, .inst 286 od) :: (od, .ns nmOp [some (.ref sym), some (.ref pt), some (.ref it), some (.ref st)]) :: R
theorem c_Operators_init {G : Gl} (I : IsG G) {o od sym : Addr} {R : Hp} {Q : AV → Hp → Prop} (q : ∀ pt it st, Q .none (opS o od sym pt it st [] [(7, .tup [.int 1000, .str "xfy"])] [] R)) : CallOk G 7 (.ref 234) [.ref o, .ref sym, .bool false] ((o, .inst 286 od) :: (od, .ns nmOp []) :: R) Q := by
  refine CallOk.go'' (n := 6) (ps := ["self", "symbols", "standard"]) (ls' := ["priority", "type_text", "names", "name"]) (gs := ["COMMA_PRIORITY", "A_COMMA", "standard_rows"]) (FnIn.lit (by rw [I.k]; walk_at "FN") (by conv => lhs; whnf)) I.g rfl ?_
  rintro X rfl hn ⟨l0, l1, l2, l3, l4, l5, l6, -⟩ ⟨g0, g1, g2, -⟩
  have q_COMMA_PRIORITY := I.fs.gl.i_COMMA_PRIORITY
  have q_A_COMMA := I.fs.gl.i_A_COMMA
  have q_standard_rows := I.fs.gl.f_standard_rows
  have mSy_atom := I.fs.sy.m_atom
  have aOp_symbols := I.fs.op.a_symbols
  have aOp_prefixes := I.fs.op.a_prefixes
  have aOp_infixes := I.fs.op.a_infixes
  have aOp_postfixes := I.fs.op.a_postfixes
  have mOp_add := I.fs.op.m_add
  have stOp := I.fs.op.st
  have aPa_symbols := I.fs.pa.a_symbols
  have stPa := I.fs.pa.st
  dsimp only [padL, List.map, List.cons_append, List.nil_append, List.length_cons, List.length_nil, List.replicate, Nat.zero_add]
  walk_at "W"
  refine Ev.dictI fun pt => ?_
  walk_at "W"
  refine Ev.dictI fun it => ?_
  walk_at "W"
  refine Ev.dictI fun st => ?_
  walk_at "W"
  refine Cl.fn' (c_add_infix I (by walk_at "M") (by walk_at "M") (by kernel_rfl) (by decide) (by decide) (.there .here) ?_) (le_n hn (by decide))
  walk_at "W"
  refine ifX_f rfl ?_
  walk_at "W"
  exact q pt it st
theorem mk_Operators {G : Gl} (I : IsG G) {sym : Addr} {σ : Hp} {Q : AV → Hp → Prop} (q : ∀ o od pt it st, Q (.ref o) (opS o od sym pt it st [] [(7, .tup [.int 1000, .str "xfy"])] [] σ)) : CallOk G 8 (.ref 286) [.ref sym, .bool false] σ Q :=
  .make' nmOp I.g I.mkf.op fun x dx => c_Operators_init I fun pt it st => ⟨rfl, q x dx pt it st⟩
structure FrR where
  x : Addr
  dx : Addr
  il : Addr
noncomputable abbrev frV (kind : Str) (lim fn name pr : Int) (left : AV) (il : Addr) : List (Option AV) := [some (.str kind), some (.int lim), some (.int fn), some (.int name), some (.int pr), some left, some (.ref il)]
theorem mk_Frame {G : Gl} (I : IsG G) {kind : Str} {lim : Int} {σ : Hp} {Q : AV → Hp → Prop} (q : ∀ x dx il, Q (.ref x) ((x, .inst 309 dx) :: (dx, .ns nmFr (frV kind lim (-1) (-1) 0 .none il)) :: σ)) : CallOk G 2 (.ref 309) [.str kind, .int lim] σ Q :=
  .make' nmFr I.g I.mkf.fr fun x dx => .weak (c_Frame_init I fun il => ⟨_, .cut (.refl _), rfl, q x dx il⟩)
noncomputable abbrev paV (sym ops tk fr nu na co : Addr) (mode : Str) (pl lim : Int) (term : AV) (pr : Int) : List (Option AV) := [some (.ref sym), some (.ref ops), some (.str mode), some (.ref tk), some (.int pl), some (.ref fr), some (.int lim), some term, some (.int pr), some (.ref nu), some (.ref na), some (.ref co), some (.int 0)]
theorem c_Parser_init {G : Gl} (I : IsG G) {p pn sym ops tk : Addr} {mode : Str} {R : Hp} {Q : AV → Hp → Prop} (q : ∀ fr nu na co, Q .none ((pn, .ns nmPa (paV sym ops tk fr nu na co mode 0 1200 .none 0)) :: (fr, .list []) :: (p, .inst 517 pn) :: R)) : CallOk G 2 (.ref 348) [.ref p, .ref sym, .ref ops, .str mode, .ref tk] ((p, .inst 517 pn) :: (pn, .ns nmPa []) :: R) Q := by
  refine CallOk.go'' (n := 1) (ps := ["self", "symbols", "operators", "mode", "tokens"]) (ls' := []) (gs := ["CLAUSE_PRIORITY"]) (FnIn.lit (by rw [I.k]; walk_at "FN") (by conv => lhs; whnf)) I.g rfl ?_
  rintro X rfl hn ⟨l0, l1, l2, l3, l4, -⟩ ⟨g0, -⟩
  have q_CLAUSE_PRIORITY := I.fs.gl.i_CLAUSE_PRIORITY
  have aOp_symbols := I.fs.op.a_symbols
  have stOp := I.fs.op.st
  have aFr_limit := I.fs.fr.a_limit
  have aFr_priority := I.fs.fr.a_priority
  have stFr := I.fs.fr.st
  have aPa_symbols := I.fs.pa.a_symbols
  have aPa_operators := I.fs.pa.a_operators
  have aPa_mode := I.fs.pa.a_mode
  have aPa_tokens := I.fs.pa.a_tokens
  have aPa_place := I.fs.pa.a_place
  have aPa_frames := I.fs.pa.a_frames
  have aPa_limit := I.fs.pa.a_limit
  have aPa_term := I.fs.pa.a_term
  have aPa_priority := I.fs.pa.a_priority
  have aPa_numbers := I.fs.pa.a_numbers
  have aPa_names := I.fs.pa.a_names
  have aPa_counts := I.fs.pa.a_counts
  have aPa_next_number := I.fs.pa.a_next_number
  have stPa := I.fs.pa.st
  dsimp only [padL, List.map, List.cons_append, List.nil_append, List.length_cons, List.length_nil, List.replicate, Nat.zero_add]
  refine Xs.weak ?_
  walk_at "W"
  intro fr _
  walk_at "W"
  refine Ev.dictS fun nu => ?_
  walk_at "W"
  intro na _
  walk_at "W"
  refine Ev.dictI fun co => ?_
  walk_at "W"
  refine ⟨_, ?_, q fr nu na co⟩
  refine .cut (.cut (.cut (.perm ?_)))
  refine (List.Perm.cons _ (.swap ..)).trans (.swap ..)
theorem mk_Parser {G : Gl} (I : IsG G) {sym ops tk : Addr} {mode : Str} {σ : Hp} {Q : AV → Hp → Prop} (q : ∀ p pn fr nu na co, Q (.ref p) ((pn, .ns nmPa (paV sym ops tk fr nu na co mode 0 1200 .none 0)) :: (fr, .list []) :: (p, .inst 517 pn) :: σ)) : CallOk G 3 (.ref 517) [.ref sym, .ref ops, .str mode, .ref tk] σ Q :=
  .make' nmPa I.g I.mkf.pa fun x dx => c_Parser_init I fun fr nu na co => ⟨rfl, q x dx fr nu na co⟩
theorem c_is_punct_no {G : Gl} (I : IsG G) {k : Str} {l : List AV} {t : Str} {σ : Hp} {Q : AV → Hp → Prop} (hk : (k == "punct") = false) (q : Q (.bool false) σ) : CallOk G 1 (.ref 334) [.tup (.str k :: l), .str t] σ Q := by
  refine CallOk.go'' (n := 0) (ps := ["token", "text"]) (ls' := []) (gs := []) (FnIn.lit (by rw [I.k]; walk_at "FN") (by conv => lhs; whnf)) I.g rfl ?_
  rintro X rfl hn ⟨l0, l1, -⟩ -
  dsimp only [padL, List.map, List.cons_append, List.nil_append, List.length_cons, List.length_nil, List.replicate, Nat.zero_add]
  walk_at "W"
  try refine Ev.and ?_
  walk_at "W"
  refine andV_f hk ?_
  walk_at "W"
  exact q
open PySem PySem.W PySem.Calls PyProof.Rows PySem.SeqAt
theorem c_peek {G : Gl} (I : IsG G) {p pn sym ops tk fr nu na co : Addr} {pl lim pr : Int} {term : AV} {FO S : Hp} {Q : AV → Hp → Prop} (hp : (p, .inst 517 pn) ∈ S) {T : List AV} {tok : AV} (htk : (tk, .list T) ∈ S) (h0 : 0 ≤ pl) (h1 : pl < 1000) (ht : T[pl.toNat]? = some tok) (q : Q tok (FO ++ (pn, .ns nmPa (paV sym ops tk fr nu na co "codes" pl lim term pr)) :: S)) : CallOk G 2 (.ref 369) [.ref p] (FO ++ (pn, .ns nmPa (paV sym ops tk fr nu na co "codes" pl lim term pr)) :: S) Q := by
  refine CallOk.go'' (n := 1) (ps := ["self"]) (ls' := []) (gs := []) (FnIn.lit (by rw [I.k]; walk_at "FN") (by conv => lhs; whnf)) I.g rfl ?_
  rintro X rfl hn ⟨l0, -⟩ -
  have aPa_tokens := I.fs.pa.a_tokens
  have aPa_place := I.fs.pa.a_place
  dsimp only [padL, List.map, List.cons_append, List.nil_append, List.length_cons, List.length_nil, List.replicate, Nat.zero_add]
  walk_at "W"
  refine Op2.itList rfl (by walk_at "M") h0 (by omega) ht ?_
  walk_at "W"
  exact q
theorem c_take {G : Gl} (I : IsG G) {p pn sym ops tk fr nu na co : Addr} {pl lim pr : Int} {term : AV} {FO S : Hp} {Q : AV → Hp → Prop} (hp : (p, .inst 517 pn) ∈ S) {T : List AV} {tok : AV} (htk : (tk, .list T) ∈ S) (h0 : 0 ≤ pl) (h1 : pl < 1000) (ht : T[pl.toNat]? = some tok) (q : Q tok (FO ++ (pn, .ns nmPa (paV sym ops tk fr nu na co "codes" (pl + 1) lim term pr)) :: S)) : CallOk G 2 (.ref 376) [.ref p] (FO ++ (pn, .ns nmPa (paV sym ops tk fr nu na co "codes" pl lim term pr)) :: S) Q := by
  refine CallOk.go'' (n := 1) (ps := ["self"]) (ls' := ["token"]) (gs := []) (FnIn.lit (by rw [I.k]; walk_at "FN") (by conv => lhs; whnf)) I.g rfl ?_
  rintro X rfl hn ⟨l0, l1, -⟩ -
  have aPa_tokens := I.fs.pa.a_tokens
  have aPa_place := I.fs.pa.a_place
  have stPa := I.fs.pa.st
  dsimp only [padL, List.map, List.cons_append, List.nil_append, List.length_cons, List.length_nil, List.replicate, Nat.zero_add]
  walk_at "W"
  refine Op2.itList rfl (by walk_at "M") h0 (by omega) ht ?_
  walk_at "W"
  exact q
theorem c_settle {G : Gl} (I : IsG G) {term' : AV} {pr' : Int} {p pn sym ops tk fr nu na co : Addr} {pl lim pr : Int} {term : AV} {FO S : Hp} {Q : AV → Hp → Prop} (hp : (p, .inst 517 pn) ∈ S) (q : Q (.int 1) (FO ++ (pn, .ns nmPa (paV sym ops tk fr nu na co "codes" pl lim term' pr')) :: S)) : CallOk G 2 (.ref 404) [.ref p, term', .int pr'] (FO ++ (pn, .ns nmPa (paV sym ops tk fr nu na co "codes" pl lim term pr)) :: S) Q := by
  refine CallOk.go'' (n := 1) (ps := ["self", "term", "priority"]) (ls' := []) (gs := ["WANT_OPERATOR"]) (FnIn.lit (by rw [I.k]; walk_at "FN") (by conv => lhs; whnf)) I.g rfl ?_
  rintro X rfl hn ⟨l0, l1, l2, -⟩ ⟨g0, -⟩
  have q_WANT_OPERATOR := I.fs.gl.i_WANT_OPERATOR
  have aFr_priority := I.fs.fr.a_priority
  have stFr := I.fs.fr.st
  have aPa_term := I.fs.pa.a_term
  have aPa_priority := I.fs.pa.a_priority
  have stPa := I.fs.pa.st
  dsimp only [padL, List.map, List.cons_append, List.nil_append, List.length_cons, List.length_nil, List.replicate, Nat.zero_add]
  walk_at "W"
  exact q
theorem c_operand_int {G : Gl} (I : IsG G) {k pos : Int} {p pn sym ops tk fr nu na co : Addr} {pl lim pr : Int} {term : AV} {FO S : Hp} {Q : AV → Hp → Prop} (hp : (p, .inst 517 pn) ∈ S) {T : List AV} (htk : (tk, .list T) ∈ S) (h0 : 0 ≤ pl) (h1 : pl < 1000) (ht : T[pl.toNat]? = some (.tup [.str "int", .int k, .int pos])) (q : Q (.int 1) (FO ++ (pn, .ns nmPa (paV sym ops tk fr nu na co "codes" (pl + 1) lim (.tup [.str "i", .int k]) 0)) :: S)) : CallOk G 4 (.ref 418) [.ref p] (FO ++ (pn, .ns nmPa (paV sym ops tk fr nu na co "codes" pl lim term pr)) :: S) Q := by
  refine CallOk.go'' (n := 3) (ps := ["self"]) (ls' := ["token", "kind"]) (gs := ["integer", "CLAUSE_PRIORITY", "is_punct", "A_NIL", "ARGUMENT_PRIORITY", "A_CURLY"]) (FnIn.lit (by rw [I.k]; walk_at "FN") (by conv => lhs; whnf)) I.g rfl ?_
  rintro X rfl hn ⟨l0, l1, l2, -⟩ ⟨g0, g1, g2, g3, g4, g5, -⟩
  have q_integer := I.fs.gl.f_integer
  have q_CLAUSE_PRIORITY := I.fs.gl.i_CLAUSE_PRIORITY
  have q_is_punct := I.fs.gl.f_is_punct
  have q_A_NIL := I.fs.gl.i_A_NIL
  have q_ARGUMENT_PRIORITY := I.fs.gl.i_ARGUMENT_PRIORITY
  have q_A_CURLY := I.fs.gl.i_A_CURLY
  have mSy_atom := I.fs.sy.m_atom
  have aOp_symbols := I.fs.op.a_symbols
  have aPa_symbols := I.fs.pa.a_symbols
  have mPa_peek := I.fs.pa.m_peek
  have mPa_take := I.fs.pa.m_take
  have mPa_fault := I.fs.pa.m_fault
  have mPa_settle := I.fs.pa.m_settle
  have mPa_named := I.fs.pa.m_named
  dsimp only [padL, List.map, List.cons_append, List.nil_append, List.length_cons, List.length_nil, List.replicate, Nat.zero_add]
  walk_at "W"
  refine Cl.fn' (c_take I hp htk h0 h1 ht ?_) (le_n hn (by decide))
  walk_at "W"
  refine ifX_t rfl ?_
  walk_at "W"
  refine Cl.fn' (c_integer I ?_) (le_n hn (by decide))
  walk_at "W"
  refine Cl.fn' (c_settle I hp ?_) (le_n hn (by decide))
  walk_at "W"
  exact q
theorem c_opname_end {G : Gl} (I : IsG G) {l : List AV} {p pn sym ops tk fr nu na co : Addr} {pl lim pr : Int} {term : AV} {FO S : Hp} {Q : AV → Hp → Prop} (hp : (p, .inst 517 pn) ∈ S) (q : Q (.int (-1)) (FO ++ (pn, .ns nmPa (paV sym ops tk fr nu na co "codes" pl lim term pr)) :: S)) : CallOk G 4 (.ref 458) [.ref p, .tup (.str "end" :: l)] (FO ++ (pn, .ns nmPa (paV sym ops tk fr nu na co "codes" pl lim term pr)) :: S) Q := by
  refine CallOk.go'' (n := 3) (ps := ["self", "token"]) (ls' := []) (gs := ["is_punct", "A_COMMA", "A_BAR"]) (FnIn.lit (by rw [I.k]; walk_at "FN") (by conv => lhs; whnf)) I.g rfl ?_
  rintro X rfl hn ⟨l0, l1, -⟩ ⟨g0, g1, g2, -⟩
  have q_is_punct := I.fs.gl.f_is_punct
  have q_A_COMMA := I.fs.gl.i_A_COMMA
  have q_A_BAR := I.fs.gl.i_A_BAR
  have mSy_atom := I.fs.sy.m_atom
  have aOp_symbols := I.fs.op.a_symbols
  have aPa_symbols := I.fs.pa.a_symbols
  dsimp only [padL, List.map, List.cons_append, List.nil_append, List.length_cons, List.length_nil, List.replicate, Nat.zero_add]
  walk_at "W"
  refine orX_f (by decide +kernel) ?_
  walk_at "W"
  refine orX_f (by decide +kernel) ?_
  walk_at "W"
  refine ifX_f rfl ?_
  walk_at "W"
  refine Cl.fn' (c_is_punct_no I (by decide +kernel) ?_) (le_n hn (by decide))
  walk_at "W"
  refine ifX_f rfl ?_
  walk_at "W"
  refine Cl.fn' (c_is_punct_no I (by decide +kernel) ?_) (le_n hn (by decide))
  walk_at "W"
  refine ifX_f rfl ?_
  walk_at "W"
  exact q
theorem c_opname {G : Gl} (I : IsG G) {t : Str} {a : Int} {l : List AV} {p pn sym ops tk fr nu na co : Addr} {pl lim pr : Int} {term : AV} {FO S : Hp} {Q : AV → Hp → Prop} (hp : (p, .inst 517 pn) ∈ S) {dx tl an fl fn : Addr} {kvs : List (Str × AV)} (hx : (sym, .inst 154 dx) ∈ S) (hd : (dx, .ns nmSy [some (.ref tl), some (.ref an), some (.ref fl), some (.ref fn)]) ∈ S) (ha : (an, .dS kvs) ∈ S) (hk : aget kvs t = some (.int a)) (ha0 : 0 ≤ a) (q : Q (.int a) (FO ++ (pn, .ns nmPa (paV sym ops tk fr nu na co "codes" pl lim term pr)) :: S)) : CallOk G 4 (.ref 458) [.ref p, .tup (.str "name" :: .str t :: l)] (FO ++ (pn, .ns nmPa (paV sym ops tk fr nu na co "codes" pl lim term pr)) :: S) Q := by
  refine CallOk.go'' (n := 3) (ps := ["self", "token"]) (ls' := []) (gs := ["is_punct", "A_COMMA", "A_BAR"]) (FnIn.lit (by rw [I.k]; walk_at "FN") (by conv => lhs; whnf)) I.g rfl ?_
  rintro X rfl hn ⟨l0, l1, -⟩ ⟨g0, g1, g2, -⟩
  have q_is_punct := I.fs.gl.f_is_punct
  have q_A_COMMA := I.fs.gl.i_A_COMMA
  have q_A_BAR := I.fs.gl.i_A_BAR
  have mSy_atom := I.fs.sy.m_atom
  have aOp_symbols := I.fs.op.a_symbols
  have aPa_symbols := I.fs.pa.a_symbols
  dsimp only [padL, List.map, List.cons_append, List.nil_append, List.length_cons, List.length_nil, List.replicate, Nat.zero_add]
  walk_at "W"
  refine orX_t rfl ?_
  walk_at "W"
  refine ifX_t rfl ?_
  walk_at "W"
  refine Cl.fn' (sy_atom I (by walk_at "M") (by walk_at "M") (by walk_at "M") hk ha0 ?_) (le_n hn (by decide))
  walk_at "W"
  exact q
noncomputable def adm (e : AV) (lim pr : Int) : Bool := match e with
  | .tup [.int l, .str f] => decide (l ≤ lim) && decide (pr ≤ (bnd l f).1)
  | _ => false
noncomputable def isEnt (e : AV) : Prop := e = .none ∨ ∃ l f, e = .tup [.int l, .str f]
theorem c_admits {G : Gl} (I : IsG G) {e : AV} (he : isEnt e) {p pn sym ops tk fr nu na co : Addr} {pl lim pr : Int} {term : AV} {FO S : Hp} {Q : AV → Hp → Prop} (hp : (p, .inst 517 pn) ∈ S) (q : Q (.bool (adm e lim pr)) (FO ++ (pn, .ns nmPa (paV sym ops tk fr nu na co "codes" pl lim term pr)) :: S)) : CallOk G 3 (.ref 472) [.ref p, e] (FO ++ (pn, .ns nmPa (paV sym ops tk fr nu na co "codes" pl lim term pr)) :: S) Q := by
  refine CallOk.go'' (n := 2) (ps := ["self", "entry"]) (ls' := []) (gs := ["bounds"]) (FnIn.lit (by rw [I.k]; walk_at "FN") (by conv => lhs; whnf)) I.g rfl ?_
  rintro X rfl hn ⟨l0, l1, -⟩ ⟨g0, -⟩
  have q_bounds := I.fs.gl.f_bounds
  have aFr_limit := I.fs.fr.a_limit
  have aFr_priority := I.fs.fr.a_priority
  have aPa_limit := I.fs.pa.a_limit
  have aPa_priority := I.fs.pa.a_priority
  dsimp only [padL, List.map, List.cons_append, List.nil_append, List.length_cons, List.length_nil, List.replicate, Nat.zero_add]
  rcases he with rfl | ⟨l, f, rfl⟩
  · walk_at "W"
    refine orX_t rfl ?_
    walk_at "W"
    refine ifX_t rfl ?_
    walk_at "W"
    exact q
  · walk_at "W"
    refine orX_f rfl ?_
    walk_at "W"
    by_cases hl : l ≤ lim
    · refine orX_f (by simpa using hl) ?_
      walk_at "W"
      refine ifX_f rfl ?_
      walk_at "W"
      refine Cl.fn' (c_bounds I ?_) (le_n hn (by decide))
      walk_at "W"
      simpa [adm, hl] using q
    · refine orX_t (by simpa using hl) ?_
      walk_at "W"
      refine ifX_t rfl ?_
      walk_at "W"
      simpa [adm, hl] using q
open PySem PySem.W PySem.Calls PyProof.Rows PySem.SeqAt
theorem c_shift_no {G : Gl} (I : IsG G) {a : Int} {e : AV} {kt : List (Int × AV)} {p pn sym ops tk fr nu na co : Addr} {pl lim pr : Int} {term : AV} {FO S : Hp} {Q : AV → Hp → Prop} (hp : (p, .inst 517 pn) ∈ S) {od pt it st : Addr} (ho : (ops, .inst 286 od) ∈ S) (hod : (od, .ns nmOp [some (.ref sym), some (.ref pt), some (.ref it), some (.ref st)]) ∈ S) (hit : (it, .dI kt) ∈ S) (he : (aget kt a).getD .none = e) (hi : isEnt e) (hb : adm e lim pr = false) (q : Q (.bool false) (FO ++ (pn, .ns nmPa (paV sym ops tk fr nu na co "codes" pl lim term pr)) :: S)) : CallOk G 5 (.ref 479) [.ref p, .int a] (FO ++ (pn, .ns nmPa (paV sym ops tk fr nu na co "codes" pl lim term pr)) :: S) Q := by
  refine CallOk.go'' (n := 4) (ps := ["self", "a"]) (ls' := ["entry", "frame"]) (gs := ["Frame", "bounds"]) (FnIn.lit (by rw [I.k]; walk_at "FN") (by conv => lhs; whnf)) I.g rfl ?_
  rintro X rfl hn ⟨l0, l1, l2, l3, -⟩ ⟨g0, g1, -⟩
  have q_Frame := I.fs.gl.f_Frame
  have q_bounds := I.fs.gl.f_bounds
  have mSy_functor := I.fs.sy.m_functor
  have aOp_symbols := I.fs.op.a_symbols
  have mOp_infix := I.fs.op.m_infix
  have stOp := I.fs.op.st
  have aFr_limit := I.fs.fr.a_limit
  have aFr_functor := I.fs.fr.a_functor
  have aFr_priority := I.fs.fr.a_priority
  have aFr_left := I.fs.fr.a_left
  have stFr := I.fs.fr.st
  have aPa_symbols := I.fs.pa.a_symbols
  have aPa_operators := I.fs.pa.a_operators
  have aPa_frames := I.fs.pa.a_frames
  have aPa_limit := I.fs.pa.a_limit
  have aPa_term := I.fs.pa.a_term
  have aPa_priority := I.fs.pa.a_priority
  have mPa_take := I.fs.pa.m_take
  have mPa_admits := I.fs.pa.m_admits
  have stPa := I.fs.pa.st
  dsimp only [padL, List.map, List.cons_append, List.nil_append, List.length_cons, List.length_nil, List.replicate, Nat.zero_add]
  walk_at "W"
  refine Cl.fn' (c_op_infix I (by walk_at "M") (by walk_at "M") (by walk_at "M") ?_) (le_n hn (by decide))
  rw [he]
  walk_at "W"
  refine Cl.fn' (c_admits I hi hp ?_) (le_n hn (by decide))
  rw [hb]
  walk_at "W"
  refine ifX_t rfl ?_
  walk_at "W"
  exact q
theorem c_post_no {G : Gl} (I : IsG G) {a : Int} {e : AV} {kt : List (Int × AV)} {p pn sym ops tk fr nu na co : Addr} {pl lim pr : Int} {term : AV} {FO S : Hp} {Q : AV → Hp → Prop} (hp : (p, .inst 517 pn) ∈ S) {od pt it st : Addr} (ho : (ops, .inst 286 od) ∈ S) (hod : (od, .ns nmOp [some (.ref sym), some (.ref pt), some (.ref it), some (.ref st)]) ∈ S) (hst : (st, .dI kt) ∈ S) (he : (aget kt a).getD .none = e) (hi : isEnt e) (hb : adm e lim pr = false) (q : Q (.bool false) (FO ++ (pn, .ns nmPa (paV sym ops tk fr nu na co "codes" pl lim term pr)) :: S)) : CallOk G 5 (.ref 486) [.ref p, .int a] (FO ++ (pn, .ns nmPa (paV sym ops tk fr nu na co "codes" pl lim term pr)) :: S) Q := by
  refine CallOk.go'' (n := 4) (ps := ["self", "a"]) (ls' := ["entry"]) (gs := ["struct"]) (FnIn.lit (by rw [I.k]; walk_at "FN") (by conv => lhs; whnf)) I.g rfl ?_
  rintro X rfl hn ⟨l0, l1, l2, -⟩ ⟨g0, -⟩
  have q_struct := I.fs.gl.f_struct
  have mSy_functor := I.fs.sy.m_functor
  have aOp_symbols := I.fs.op.a_symbols
  have mOp_postfix := I.fs.op.m_postfix
  have aFr_functor := I.fs.fr.a_functor
  have aPa_symbols := I.fs.pa.a_symbols
  have aPa_operators := I.fs.pa.a_operators
  have aPa_term := I.fs.pa.a_term
  have mPa_take := I.fs.pa.m_take
  have mPa_settle := I.fs.pa.m_settle
  have mPa_admits := I.fs.pa.m_admits
  dsimp only [padL, List.map, List.cons_append, List.nil_append, List.length_cons, List.length_nil, List.replicate, Nat.zero_add]
  walk_at "W"
  refine Cl.fn' (c_op_postfix I (by walk_at "M") (by walk_at "M") (by walk_at "M") ?_) (le_n hn (by decide))
  rw [he]
  walk_at "W"
  refine Cl.fn' (c_admits I hi hp ?_) (le_n hn (by decide))
  rw [hb]
  walk_at "W"
  refine ifX_t rfl ?_
  walk_at "W"
  exact q
theorem c_post_yes {G : Gl} (I : IsG G) {a lv k : Int} {fx : Str} {kt : List (Int × AV)} {p pn sym ops tk fr nu na co : Addr} {pl lim pr : Int} {term : AV} {FO S : Hp} {Q : AV → Hp → Prop} (hkn : term.known = true) (hp : (p, .inst 517 pn) ∈ S) {T : List AV} {tok : AV} (htk : (tk, .list T) ∈ S) (h0 : 0 ≤ pl) (h1 : pl < 1000) (ht : T[pl.toNat]? = some tok) {od pt it st : Addr} (ho : (ops, .inst 286 od) ∈ S) (hod : (od, .ns nmOp [some (.ref sym), some (.ref pt), some (.ref it), some (.ref st)]) ∈ S) {dx tl an fl fn : Addr} {fkv : List (List Int × AV)} (hx : (sym, .inst 154 dx) ∈ S) (hd : (dx, .ns nmSy [some (.ref tl), some (.ref an), some (.ref fl), some (.ref fn)]) ∈ S) (hfn : (fn, .dT fkv) ∈ S) (hst : (st, .dI kt) ∈ S) (he : (aget kt a).getD .none = .tup [.int lv, .str fx]) (hb : adm (.tup [.int lv, .str fx]) lim pr = true) (hf : aget fkv [a, 1] = some (.int k)) (hk0 : 0 ≤ k) (q : Q (.bool true) (FO ++ (pn, .ns nmPa (paV sym ops tk fr nu na co "codes" (pl + 1) lim (.tup [.str "s", .int k, .tup [term]]) lv)) :: S)) : CallOk G 5 (.ref 486) [.ref p, .int a] (FO ++ (pn, .ns nmPa (paV sym ops tk fr nu na co "codes" pl lim term pr)) :: S) Q := by
  refine CallOk.go'' (n := 4) (ps := ["self", "a"]) (ls' := ["entry"]) (gs := ["struct"]) (FnIn.lit (by rw [I.k]; walk_at "FN") (by conv => lhs; whnf)) I.g rfl ?_
  rintro X rfl hn ⟨l0, l1, l2, -⟩ ⟨g0, -⟩
  have q_struct := I.fs.gl.f_struct
  have mSy_functor := I.fs.sy.m_functor
  have aOp_symbols := I.fs.op.a_symbols
  have mOp_postfix := I.fs.op.m_postfix
  have aFr_functor := I.fs.fr.a_functor
  have aPa_symbols := I.fs.pa.a_symbols
  have aPa_operators := I.fs.pa.a_operators
  have aPa_term := I.fs.pa.a_term
  have mPa_take := I.fs.pa.m_take
  have mPa_settle := I.fs.pa.m_settle
  have mPa_admits := I.fs.pa.m_admits
  dsimp only [padL, List.map, List.cons_append, List.nil_append, List.length_cons, List.length_nil, List.replicate, Nat.zero_add]
  walk_at "W"
  refine Cl.fn' (c_op_postfix I (by walk_at "M") (by walk_at "M") (by walk_at "M") ?_) (le_n hn (by decide))
  rw [he]
  walk_at "W"
  refine Cl.fn' (c_admits I (.inr ⟨lv, fx, rfl⟩) hp ?_) (le_n hn (by decide))
  rw [hb]
  walk_at "W"
  refine ifX_f rfl ?_
  walk_at "W"
  refine Cl.fn' (c_take I hp htk h0 h1 ht ?_) (le_n hn (by decide))
  walk_at "W"
  refine Cl.fn' (c_functor I (by walk_at "M") (by walk_at "M") (by walk_at "M") hf hk0 ?_) (le_n hn (by decide))
  walk_at "W"
  refine Cl.fn' (c_struct I ?_) (le_n hn (by decide))
  walk_at "W"
  refine Cl.fn' (c_settle I hp ?_) (le_n hn (by decide))
  walk_at "W"
  exact q
theorem c_shift_yes {G : Gl} (I : IsG G) {a lv k : Int} {fx : Str} {fl0 : List AV} {kt : List (Int × AV)} {p pn sym ops tk fr nu na co : Addr} {pl lim pr : Int} {term : AV} {FO S : Hp} {Q : AV → Hp → Prop} (hp : (p, .inst 517 pn) ∈ S) {T : List AV} {tok : AV} (htk : (tk, .list T) ∈ S) (h0 : 0 ≤ pl) (h1 : pl < 1000) (ht : T[pl.toNat]? = some tok) {od pt it st : Addr} (ho : (ops, .inst 286 od) ∈ S) (hod : (od, .ns nmOp [some (.ref sym), some (.ref pt), some (.ref it), some (.ref st)]) ∈ S) {dx tl an fl fn : Addr} {fkv : List (List Int × AV)} (hx : (sym, .inst 154 dx) ∈ S) (hd : (dx, .ns nmSy [some (.ref tl), some (.ref an), some (.ref fl), some (.ref fn)]) ∈ S) (hfn : (fn, .dT fkv) ∈ S) (hit : (it, .dI kt) ∈ S) (hz : fl0.length ≤ 1000) (hkn : term.known = true) (he : (aget kt a).getD .none = .tup [.int lv, .str fx]) (hb : adm (.tup [.int lv, .str fx]) lim pr = true) (hf : aget fkv [a, 2] = some (.int k)) (hk0 : 0 ≤ k) (q : ∀ x dx' il, Q (.bool true) ((x, .inst 309 dx') :: (dx', .ns nmFr (frV "operator" lim k (-1) lv term il)) :: (FO ++ (pn, .ns nmPa (paV sym ops tk fr nu na co "codes" (pl + 1) (bnd lv fx).2 term pr)) :: (fr, .list (fl0 ++ [.ref x])) :: S))) : CallOk G 5 (.ref 479) [.ref p, .int a] (FO ++ (pn, .ns nmPa (paV sym ops tk fr nu na co "codes" pl lim term pr)) :: (fr, .list fl0) :: S) Q := by
  refine CallOk.go'' (n := 4) (ps := ["self", "a"]) (ls' := ["entry", "frame"]) (gs := ["Frame", "bounds"]) (FnIn.lit (by rw [I.k]; walk_at "FN") (by conv => lhs; whnf)) I.g rfl ?_
  rintro X rfl hn ⟨l0, l1, l2, l3, -⟩ ⟨g0, g1, -⟩
  have q_Frame := I.fs.gl.f_Frame
  have q_bounds := I.fs.gl.f_bounds
  have mSy_functor := I.fs.sy.m_functor
  have aOp_symbols := I.fs.op.a_symbols
  have mOp_infix := I.fs.op.m_infix
  have stOp := I.fs.op.st
  have aFr_limit := I.fs.fr.a_limit
  have aFr_functor := I.fs.fr.a_functor
  have aFr_priority := I.fs.fr.a_priority
  have aFr_left := I.fs.fr.a_left
  have stFr := I.fs.fr.st
  have aPa_symbols := I.fs.pa.a_symbols
  have aPa_operators := I.fs.pa.a_operators
  have aPa_frames := I.fs.pa.a_frames
  have aPa_limit := I.fs.pa.a_limit
  have aPa_term := I.fs.pa.a_term
  have aPa_priority := I.fs.pa.a_priority
  have mPa_take := I.fs.pa.m_take
  have mPa_admits := I.fs.pa.m_admits
  have stPa := I.fs.pa.st
  dsimp only [padL, List.map, List.cons_append, List.nil_append, List.length_cons, List.length_nil, List.replicate, Nat.zero_add]
  walk_at "W"
  refine Cl.fn' (c_op_infix I (by walk_at "M") (by walk_at "M") (by walk_at "M") ?_) (le_n hn (by decide))
  rw [he]
  walk_at "W"
  refine Cl.fn' (c_admits I (.inr ⟨lv, fx, rfl⟩) (by walk_at "M") ?_) (le_n hn (by decide))
  rw [hb]
  walk_at "W"
  refine ifX_f rfl ?_
  walk_at "W"
  refine Cl.fn' (c_take I (by walk_at "M") (by walk_at "M") h0 h1 ht ?_) (le_n hn (by decide))
  walk_at "W"
  refine Cl.fn' (mk_Frame I fun x dx' il => ?_) (le_n hn (by decide))
  walk_at "W"
  refine Cl.fn' (c_functor I (by walk_at "M") (by walk_at "M") (by walk_at "M") hf hk0 ?_) (le_n hn (by decide))
  walk_at "W"
  refine Cl.fn' (c_bounds I ?_) (le_n hn (by decide))
  walk_at "W"
  exact q x dx' il
noncomputable def redT (left : AV) (k : Int) (term : AV) : AV := if left.isNone then .tup [.str "s", .int k, .tup [term]] else .tup [.str "s", .int k, .tup [left, term]]
theorem c_reduce {G : Gl} (I : IsG G) {x dx' il : Addr} {fl k fp : Int} {left : AV} {fl0 : List AV} {p pn sym ops tk fr nu na co : Addr} {pl lim pr : Int} {term : AV} {FO S : Hp} {Q : AV → Hp → Prop} (hp : (p, .inst 517 pn) ∈ S) (hz : fl0.length ≤ 1000) (hkn : term.known = true) (hln : left.known = true) (q : Q .none (FO ++ (pn, .ns nmPa (paV sym ops tk fr nu na co "codes" pl fl (redT left k term) fp)) :: (fr, .list fl0) :: S)) : CallOk G 4 (.ref 493) [.ref p] (((x, .inst 309 dx') :: (dx', .ns nmFr (frV "operator" fl k (-1) fp left il)) :: (FO ++ (pn, .ns nmPa (paV sym ops tk fr nu na co "codes" pl lim term pr)) :: (fr, .list (fl0 ++ [.ref x])) :: S))) Q := by
  refine CallOk.go'' (n := 3) (ps := ["self"]) (ls' := ["frame"]) (gs := ["struct"]) (FnIn.lit (by rw [I.k]; walk_at "FN") (by conv => lhs; whnf)) I.g rfl ?_
  rintro X rfl hn ⟨l0, l1, -⟩ ⟨g0, -⟩
  have q_struct := I.fs.gl.f_struct
  have mSy_functor := I.fs.sy.m_functor
  have aFr_limit := I.fs.fr.a_limit
  have aFr_functor := I.fs.fr.a_functor
  have aFr_priority := I.fs.fr.a_priority
  have aFr_left := I.fs.fr.a_left
  have stFr := I.fs.fr.st
  have aPa_frames := I.fs.pa.a_frames
  have aPa_limit := I.fs.pa.a_limit
  have aPa_term := I.fs.pa.a_term
  have aPa_priority := I.fs.pa.a_priority
  have mPa_settle := I.fs.pa.m_settle
  have stPa := I.fs.pa.st
  dsimp only [padL, List.map, List.cons_append, List.nil_append, List.length_cons, List.length_nil, List.replicate, Nat.zero_add]
  refine Xs.weak ?_
  walk_at "W"
  unfold redT at q
  refine ifX_c (fun h => ?_) (fun h => ?_)
  · rw [if_pos h] at q
    walk_at "W"
    refine Cl.fn' (c_struct I ?_) (le_n hn (by decide))
    walk_at "W"
    refine Cl.fn' (c_settle I (FO := (x, .inst 309 dx') :: (dx', .ns nmFr (frV "operator" fl k (-1) fp left il)) :: FO) (by walk_at "M") ?_) (le_n hn (by decide))
    walk_at "W"
    exact ⟨_, .cut (.cut (.refl _)), q⟩
  · rw [if_neg (by rw [h]; decide)] at q
    walk_at "W"
    refine Cl.fn' (c_struct I ?_) (le_n hn (by decide))
    walk_at "W"
    refine Cl.fn' (c_settle I (FO := (x, .inst 309 dx') :: (dx', .ns nmFr (frV "operator" fl k (-1) fp left il)) :: FO) (by walk_at "M") ?_) (le_n hn (by decide))
    walk_at "W"
    exact ⟨_, .cut (.cut (.refl _)), q⟩
open PySem PySem.W PySem.Calls PyProof.Rows PySem.SeqAt
theorem c_op_shift {G : Gl} (I : IsG G) {fl0 : List AV} {ki ks : List (Int × AV)} {avs : List (Str × AV)} {p pn sym ops tk fr nu na co : Addr} {pl lim pr : Int} {term : AV} {FO S : Hp} {Q : AV → Hp → Prop} (hp : (p, .inst 517 pn) ∈ S) {T : List AV} {tok : AV} (htk : (tk, .list T) ∈ S) (h0 : 0 ≤ pl) (h1 : pl < 1000) (ht : T[pl.toNat]? = some tok) {od pt it st : Addr} (ho : (ops, .inst 286 od) ∈ S) (hod : (od, .ns nmOp [some (.ref sym), some (.ref pt), some (.ref it), some (.ref st)]) ∈ S) {dx tl an fl fn : Addr} {fkv : List (List Int × AV)} (hx : (sym, .inst 154 dx) ∈ S) (hd : (dx, .ns nmSy [some (.ref tl), some (.ref an), some (.ref fl), some (.ref fn)]) ∈ S) (hfn : (fn, .dT fkv) ∈ S) (hit : (it, .dI ki) ∈ S) (hst : (st, .dI ks) ∈ S) (ha : (an, .dS avs) ∈ S) {t : Str} {a : Int} {l : List AV} {e1 e2 : AV} (htok : tok = .tup (.str "name" :: .str t :: l)) (hk : aget avs t = some (.int a)) (ha0 : 0 ≤ a) (he1 : (aget ki a).getD .none = e1) (hi1 : isEnt e1) (he2 : (aget ks a).getD .none = e2) (hi2 : isEnt e2) {lv k : Int} {fx : Str} (hE : e1 = .tup [.int lv, .str fx]) (hz : fl0.length ≤ 1000) (hkn : term.known = true) (hb : adm (.tup [.int lv, .str fx]) lim pr = true) (hf : aget fkv [a, 2] = some (.int k)) (hk0 : 0 ≤ k) (q : ∀ x dx' il, Q (.int 0) ((x, .inst 309 dx') :: (dx', .ns nmFr (frV "operator" lim k (-1) lv term il)) :: (FO ++ (pn, .ns nmPa (paV sym ops tk fr nu na co "codes" (pl + 1) (bnd lv fx).2 term pr)) :: (fr, .list (fl0 ++ [.ref x])) :: S))) : CallOk G 7 (.ref 465) [.ref p] (FO ++ (pn, .ns nmPa (paV sym ops tk fr nu na co "codes" pl lim term pr)) :: (fr, .list fl0) :: S) Q := by
  refine CallOk.go'' (n := 6) (ps := ["self"]) (ls' := ["token", "a"]) (gs := ["WANT_OPERAND", "WANT_OPERATOR", "DONE"]) (FnIn.lit (by rw [I.k]; walk_at "FN") (by conv => lhs; whnf)) I.g rfl ?_
  rintro X rfl hn ⟨l0, l1, l2, -⟩ ⟨g0, g1, g2, -⟩
  have q_WANT_OPERAND := I.fs.gl.i_WANT_OPERAND
  have q_WANT_OPERATOR := I.fs.gl.i_WANT_OPERATOR
  have q_DONE := I.fs.gl.i_DONE
  have aFr_kind := I.fs.fr.a_kind
  have aPa_frames := I.fs.pa.a_frames
  have mPa_peek := I.fs.pa.m_peek
  have mPa_operator_name := I.fs.pa.m_operator_name
  have mPa_shift_infix := I.fs.pa.m_shift_infix
  have mPa_apply_postfix := I.fs.pa.m_apply_postfix
  have mPa_reduce := I.fs.pa.m_reduce
  dsimp only [padL, List.map, List.cons_append, List.nil_append, List.length_cons, List.length_nil, List.replicate, Nat.zero_add]
  subst htok
  walk_at "W"
  refine Cl.fn' (c_peek I (by walk_at "M") (by walk_at "M") h0 h1 ht ?_) (le_n hn (by decide))
  walk_at "W"
  refine Cl.fn' (c_opname I (by walk_at "M") (by walk_at "M") (by walk_at "M") (by walk_at "M") hk ha0 ?_) (le_n hn (by decide))
  walk_at "W"
  refine andX_t (by simpa using ha0) ?_
  walk_at "W"
  subst hE
  refine Cl.fn' (c_shift_yes I (by walk_at "M") (by walk_at "M") h0 h1 ht (by walk_at "M") (by walk_at "M") (by walk_at "M") (by walk_at "M") (by walk_at "M") (by walk_at "M") hz hkn he1 hb hf hk0 fun x dx' il => ?_) (le_n hn (by decide))
  walk_at "W"
  refine andX_t rfl ?_
  walk_at "W"
  refine ifX_t rfl ?_
  walk_at "W"
  exact q x dx' il
theorem c_op_post {G : Gl} (I : IsG G) {fl0 : List AV} {ki ks : List (Int × AV)} {avs : List (Str × AV)} {p pn sym ops tk fr nu na co : Addr} {pl lim pr : Int} {term : AV} {FO S : Hp} {Q : AV → Hp → Prop} (hp : (p, .inst 517 pn) ∈ S) {T : List AV} {tok : AV} (htk : (tk, .list T) ∈ S) (h0 : 0 ≤ pl) (h1 : pl < 1000) (ht : T[pl.toNat]? = some tok) {od pt it st : Addr} (ho : (ops, .inst 286 od) ∈ S) (hod : (od, .ns nmOp [some (.ref sym), some (.ref pt), some (.ref it), some (.ref st)]) ∈ S) {dx tl an fl fn : Addr} {fkv : List (List Int × AV)} (hx : (sym, .inst 154 dx) ∈ S) (hd : (dx, .ns nmSy [some (.ref tl), some (.ref an), some (.ref fl), some (.ref fn)]) ∈ S) (hfn : (fn, .dT fkv) ∈ S) (hit : (it, .dI ki) ∈ S) (hst : (st, .dI ks) ∈ S) (ha : (an, .dS avs) ∈ S) {t : Str} {a : Int} {l : List AV} {e1 e2 : AV} (htok : tok = .tup (.str "name" :: .str t :: l)) (hk : aget avs t = some (.int a)) (ha0 : 0 ≤ a) (he1 : (aget ki a).getD .none = e1) (hi1 : isEnt e1) (he2 : (aget ks a).getD .none = e2) (hi2 : isEnt e2) {lv k : Int} {fx : Str} (hb1 : adm e1 lim pr = false) (hE : e2 = .tup [.int lv, .str fx]) (hkn : term.known = true) (hb : adm (.tup [.int lv, .str fx]) lim pr = true) (hf : aget fkv [a, 1] = some (.int k)) (hk0 : 0 ≤ k) (q : Q (.int 1) (FO ++ (pn, .ns nmPa (paV sym ops tk fr nu na co "codes" (pl + 1) lim (.tup [.str "s", .int k, .tup [term]]) lv)) :: (fr, .list fl0) :: S)) : CallOk G 7 (.ref 465) [.ref p] (FO ++ (pn, .ns nmPa (paV sym ops tk fr nu na co "codes" pl lim term pr)) :: (fr, .list fl0) :: S) Q := by
  refine CallOk.go'' (n := 6) (ps := ["self"]) (ls' := ["token", "a"]) (gs := ["WANT_OPERAND", "WANT_OPERATOR", "DONE"]) (FnIn.lit (by rw [I.k]; walk_at "FN") (by conv => lhs; whnf)) I.g rfl ?_
  rintro X rfl hn ⟨l0, l1, l2, -⟩ ⟨g0, g1, g2, -⟩
  have q_WANT_OPERAND := I.fs.gl.i_WANT_OPERAND
  have q_WANT_OPERATOR := I.fs.gl.i_WANT_OPERATOR
  have q_DONE := I.fs.gl.i_DONE
  have aFr_kind := I.fs.fr.a_kind
  have aPa_frames := I.fs.pa.a_frames
  have mPa_peek := I.fs.pa.m_peek
  have mPa_operator_name := I.fs.pa.m_operator_name
  have mPa_shift_infix := I.fs.pa.m_shift_infix
  have mPa_apply_postfix := I.fs.pa.m_apply_postfix
  have mPa_reduce := I.fs.pa.m_reduce
  dsimp only [padL, List.map, List.cons_append, List.nil_append, List.length_cons, List.length_nil, List.replicate, Nat.zero_add]
  subst htok
  walk_at "W"
  refine Cl.fn' (c_peek I (by walk_at "M") (by walk_at "M") h0 h1 ht ?_) (le_n hn (by decide))
  walk_at "W"
  refine Cl.fn' (c_opname I (by walk_at "M") (by walk_at "M") (by walk_at "M") (by walk_at "M") hk ha0 ?_) (le_n hn (by decide))
  walk_at "W"
  refine andX_t (by simpa using ha0) ?_
  walk_at "W"
  refine Cl.fn' (c_shift_no I (by walk_at "M") (by walk_at "M") (by walk_at "M") (by walk_at "M") he1 hi1 hb1 ?_) (le_n hn (by decide))
  walk_at "W"
  refine andX_f rfl ?_
  refine ifX_f rfl ?_
  walk_at "W"
  refine andX_t (by simpa using ha0) ?_
  walk_at "W"
  subst hE
  refine Cl.fn' (c_post_yes I hkn (by walk_at "M") (by walk_at "M") h0 h1 ht (by walk_at "M") (by walk_at "M") (by walk_at "M") (by walk_at "M") (by walk_at "M") (by walk_at "M") he2 hb hf hk0 ?_) (le_n hn (by decide))
  walk_at "W"
  refine andX_t rfl ?_
  walk_at "W"
  refine ifX_t rfl ?_
  walk_at "W"
  exact q
theorem c_op_done_n {G : Gl} (I : IsG G) {ki ks : List (Int × AV)} {avs : List (Str × AV)} {p pn sym ops tk fr nu na co : Addr} {pl lim pr : Int} {term : AV} {FO S : Hp} {Q : AV → Hp → Prop} (hp : (p, .inst 517 pn) ∈ S) {T : List AV} {tok : AV} (htk : (tk, .list T) ∈ S) (h0 : 0 ≤ pl) (h1 : pl < 1000) (ht : T[pl.toNat]? = some tok) {od pt it st : Addr} (ho : (ops, .inst 286 od) ∈ S) (hod : (od, .ns nmOp [some (.ref sym), some (.ref pt), some (.ref it), some (.ref st)]) ∈ S) {dx tl an fl fn : Addr} {fkv : List (List Int × AV)} (hx : (sym, .inst 154 dx) ∈ S) (hd : (dx, .ns nmSy [some (.ref tl), some (.ref an), some (.ref fl), some (.ref fn)]) ∈ S) (hfn : (fn, .dT fkv) ∈ S) (hit : (it, .dI ki) ∈ S) (hst : (st, .dI ks) ∈ S) (ha : (an, .dS avs) ∈ S) {t : Str} {a : Int} {l : List AV} {e1 e2 : AV} (htok : tok = .tup (.str "name" :: .str t :: l)) (hk : aget avs t = some (.int a)) (ha0 : 0 ≤ a) (he1 : (aget ki a).getD .none = e1) (hi1 : isEnt e1) (he2 : (aget ks a).getD .none = e2) (hi2 : isEnt e2) (hb1 : adm e1 lim pr = false) (hb2 : adm e2 lim pr = false) (q : Q (.int 2) (FO ++ (pn, .ns nmPa (paV sym ops tk fr nu na co "codes" pl lim term pr)) :: (fr, .list []) :: S)) : CallOk G 7 (.ref 465) [.ref p] (FO ++ (pn, .ns nmPa (paV sym ops tk fr nu na co "codes" pl lim term pr)) :: (fr, .list []) :: S) Q := by
  refine CallOk.go'' (n := 6) (ps := ["self"]) (ls' := ["token", "a"]) (gs := ["WANT_OPERAND", "WANT_OPERATOR", "DONE"]) (FnIn.lit (by rw [I.k]; walk_at "FN") (by conv => lhs; whnf)) I.g rfl ?_
  rintro X rfl hn ⟨l0, l1, l2, -⟩ ⟨g0, g1, g2, -⟩
  have q_WANT_OPERAND := I.fs.gl.i_WANT_OPERAND
  have q_WANT_OPERATOR := I.fs.gl.i_WANT_OPERATOR
  have q_DONE := I.fs.gl.i_DONE
  have aFr_kind := I.fs.fr.a_kind
  have aPa_frames := I.fs.pa.a_frames
  have mPa_peek := I.fs.pa.m_peek
  have mPa_operator_name := I.fs.pa.m_operator_name
  have mPa_shift_infix := I.fs.pa.m_shift_infix
  have mPa_apply_postfix := I.fs.pa.m_apply_postfix
  have mPa_reduce := I.fs.pa.m_reduce
  dsimp only [padL, List.map, List.cons_append, List.nil_append, List.length_cons, List.length_nil, List.replicate, Nat.zero_add]
  subst htok
  walk_at "W"
  refine Cl.fn' (c_peek I (by walk_at "M") (by walk_at "M") h0 h1 ht ?_) (le_n hn (by decide))
  walk_at "W"
  refine Cl.fn' (c_opname I (by walk_at "M") (by walk_at "M") (by walk_at "M") (by walk_at "M") hk ha0 ?_) (le_n hn (by decide))
  walk_at "W"
  refine andX_t (by simpa using ha0) ?_
  walk_at "W"
  refine Cl.fn' (c_shift_no I (by walk_at "M") (by walk_at "M") (by walk_at "M") (by walk_at "M") he1 hi1 hb1 ?_) (le_n hn (by decide))
  walk_at "W"
  refine andX_f rfl ?_
  refine ifX_f rfl ?_
  walk_at "W"
  refine andX_t (by simpa using ha0) ?_
  walk_at "W"
  refine Cl.fn' (c_post_no I (by walk_at "M") (by walk_at "M") (by walk_at "M") (by walk_at "M") he2 hi2 hb2 ?_) (le_n hn (by decide))
  walk_at "W"
  refine andX_f rfl ?_
  refine ifX_f rfl ?_
  walk_at "W"
  refine TrAt.list (l := []) (by walk_at "M") (by decide) ?_
  refine ifX_t rfl ?_
  walk_at "W"
  exact q
theorem c_op_done_e {G : Gl} (I : IsG G) {ki ks : List (Int × AV)} {avs : List (Str × AV)} {p pn sym ops tk fr nu na co : Addr} {pl lim pr : Int} {term : AV} {FO S : Hp} {Q : AV → Hp → Prop} (hp : (p, .inst 517 pn) ∈ S) {T : List AV} {tok : AV} (htk : (tk, .list T) ∈ S) (h0 : 0 ≤ pl) (h1 : pl < 1000) (ht : T[pl.toNat]? = some tok) {od pt it st : Addr} (ho : (ops, .inst 286 od) ∈ S) (hod : (od, .ns nmOp [some (.ref sym), some (.ref pt), some (.ref it), some (.ref st)]) ∈ S) {dx tl an fl fn : Addr} {fkv : List (List Int × AV)} (hx : (sym, .inst 154 dx) ∈ S) (hd : (dx, .ns nmSy [some (.ref tl), some (.ref an), some (.ref fl), some (.ref fn)]) ∈ S) (hfn : (fn, .dT fkv) ∈ S) (hit : (it, .dI ki) ∈ S) (hst : (st, .dI ks) ∈ S) (ha : (an, .dS avs) ∈ S) {l : List AV} (htok : tok = .tup (.str "end" :: l)) (q : Q (.int 2) (FO ++ (pn, .ns nmPa (paV sym ops tk fr nu na co "codes" pl lim term pr)) :: (fr, .list []) :: S)) : CallOk G 7 (.ref 465) [.ref p] (FO ++ (pn, .ns nmPa (paV sym ops tk fr nu na co "codes" pl lim term pr)) :: (fr, .list []) :: S) Q := by
  refine CallOk.go'' (n := 6) (ps := ["self"]) (ls' := ["token", "a"]) (gs := ["WANT_OPERAND", "WANT_OPERATOR", "DONE"]) (FnIn.lit (by rw [I.k]; walk_at "FN") (by conv => lhs; whnf)) I.g rfl ?_
  rintro X rfl hn ⟨l0, l1, l2, -⟩ ⟨g0, g1, g2, -⟩
  have q_WANT_OPERAND := I.fs.gl.i_WANT_OPERAND
  have q_WANT_OPERATOR := I.fs.gl.i_WANT_OPERATOR
  have q_DONE := I.fs.gl.i_DONE
  have aFr_kind := I.fs.fr.a_kind
  have aPa_frames := I.fs.pa.a_frames
  have mPa_peek := I.fs.pa.m_peek
  have mPa_operator_name := I.fs.pa.m_operator_name
  have mPa_shift_infix := I.fs.pa.m_shift_infix
  have mPa_apply_postfix := I.fs.pa.m_apply_postfix
  have mPa_reduce := I.fs.pa.m_reduce
  dsimp only [padL, List.map, List.cons_append, List.nil_append, List.length_cons, List.length_nil, List.replicate, Nat.zero_add]
  subst htok
  walk_at "W"
  refine Cl.fn' (c_peek I (by walk_at "M") (by walk_at "M") h0 h1 ht ?_) (le_n hn (by decide))
  walk_at "W"
  refine Cl.fn' (c_opname_end I (by walk_at "M") ?_) (le_n hn (by decide))
  walk_at "W"
  refine andX_f (by decide) ?_
  refine ifX_f rfl ?_
  walk_at "W"
  refine andX_f (by decide) ?_
  refine ifX_f rfl ?_
  walk_at "W"
  refine TrAt.list (l := []) (by walk_at "M") (by decide) ?_
  refine ifX_t rfl ?_
  walk_at "W"
  exact q
theorem c_op_red_n {G : Gl} (I : IsG G) {ki ks : List (Int × AV)} {avs : List (Str × AV)} {p pn sym ops tk fr nu na co : Addr} {pl lim pr : Int} {term : AV} {FO S : Hp} {Q : AV → Hp → Prop} (hp : (p, .inst 517 pn) ∈ S) {T : List AV} {tok : AV} (htk : (tk, .list T) ∈ S) (h0 : 0 ≤ pl) (h1 : pl < 1000) (ht : T[pl.toNat]? = some tok) {od pt it st : Addr} (ho : (ops, .inst 286 od) ∈ S) (hod : (od, .ns nmOp [some (.ref sym), some (.ref pt), some (.ref it), some (.ref st)]) ∈ S) {dx tl an fl fn : Addr} {fkv : List (List Int × AV)} (hx : (sym, .inst 154 dx) ∈ S) (hd : (dx, .ns nmSy [some (.ref tl), some (.ref an), some (.ref fl), some (.ref fn)]) ∈ S) (hfn : (fn, .dT fkv) ∈ S) (hit : (it, .dI ki) ∈ S) (hst : (st, .dI ks) ∈ S) (ha : (an, .dS avs) ∈ S) {t : Str} {a : Int} {l : List AV} {e1 e2 : AV} (htok : tok = .tup (.str "name" :: .str t :: l)) (hk : aget avs t = some (.int a)) (ha0 : 0 ≤ a) (he1 : (aget ki a).getD .none = e1) (hi1 : isEnt e1) (he2 : (aget ks a).getD .none = e2) (hi2 : isEnt e2) (hb1 : adm e1 lim pr = false) (hb2 : adm e2 lim pr = false) {x dx' il : Addr} {flm k fp : Int} {left : AV} {fl0 : List AV} (hz : fl0.length ≤ 1000) (hkn : term.known = true) (hln : left.known = true) (q : Q (.int 1) (FO ++ (pn, .ns nmPa (paV sym ops tk fr nu na co "codes" pl flm (redT left k term) fp)) :: (fr, .list fl0) :: S))  : CallOk G 7 (.ref 465) [.ref p] (((x, .inst 309 dx') :: (dx', .ns nmFr (frV "operator" flm k (-1) fp left il)) :: (FO ++ (pn, .ns nmPa (paV sym ops tk fr nu na co "codes" pl lim term pr)) :: (fr, .list (fl0 ++ [.ref x])) :: S))) Q := by
  refine CallOk.go'' (n := 6) (ps := ["self"]) (ls' := ["token", "a"]) (gs := ["WANT_OPERAND", "WANT_OPERATOR", "DONE"]) (FnIn.lit (by rw [I.k]; walk_at "FN") (by conv => lhs; whnf)) I.g rfl ?_
  rintro X rfl hn ⟨l0, l1, l2, -⟩ ⟨g0, g1, g2, -⟩
  have q_WANT_OPERAND := I.fs.gl.i_WANT_OPERAND
  have q_WANT_OPERATOR := I.fs.gl.i_WANT_OPERATOR
  have q_DONE := I.fs.gl.i_DONE
  have aFr_kind := I.fs.fr.a_kind
  have aPa_frames := I.fs.pa.a_frames
  have mPa_peek := I.fs.pa.m_peek
  have mPa_operator_name := I.fs.pa.m_operator_name
  have mPa_shift_infix := I.fs.pa.m_shift_infix
  have mPa_apply_postfix := I.fs.pa.m_apply_postfix
  have mPa_reduce := I.fs.pa.m_reduce
  dsimp only [padL, List.map, List.cons_append, List.nil_append, List.length_cons, List.length_nil, List.replicate, Nat.zero_add]
  subst htok
  walk_at "W"
  refine Cl.fn' (c_peek I (FO := ((x, .inst 309 dx') :: (dx', .ns nmFr (frV "operator" flm k (-1) fp left il)) :: FO)) (by walk_at "M") (by walk_at "M") h0 h1 ht ?_) (le_n hn (by decide))
  walk_at "W"
  refine Cl.fn' (c_opname I (FO := ((x, .inst 309 dx') :: (dx', .ns nmFr (frV "operator" flm k (-1) fp left il)) :: FO)) (by walk_at "M") (by walk_at "M") (by walk_at "M") (by walk_at "M") hk ha0 ?_) (le_n hn (by decide))
  walk_at "W"
  refine andX_t (by simpa using ha0) ?_
  walk_at "W"
  refine Cl.fn' (c_shift_no I (FO := ((x, .inst 309 dx') :: (dx', .ns nmFr (frV "operator" flm k (-1) fp left il)) :: FO)) (by walk_at "M") (by walk_at "M") (by walk_at "M") (by walk_at "M") he1 hi1 hb1 ?_) (le_n hn (by decide))
  walk_at "W"
  refine andX_f rfl ?_
  refine ifX_f rfl ?_
  walk_at "W"
  refine andX_t (by simpa using ha0) ?_
  walk_at "W"
  refine Cl.fn' (c_post_no I (FO := ((x, .inst 309 dx') :: (dx', .ns nmFr (frV "operator" flm k (-1) fp left il)) :: FO)) (by walk_at "M") (by walk_at "M") (by walk_at "M") (by walk_at "M") he2 hi2 hb2 ?_) (le_n hn (by decide))
  walk_at "W"
  refine andX_f rfl ?_
  refine ifX_f rfl ?_
  walk_at "W"
  try dsimp only [List.cons_append]
  refine TrAt.list (l := fl0 ++ [.ref x]) (by walk_at "M") (by simp; omega) ?_
  refine ifX_f (by simp) ?_
  walk_at "W"
  refine Op2.lastList rfl (by walk_at "M") (by omega) ?_
  walk_at "W"
  refine ifX_t rfl ?_
  walk_at "W"
  refine Cl.fn' (c_reduce I (by walk_at "M") hz hkn hln ?_) (le_n hn (by decide))
  walk_at "W"
  exact q
theorem c_op_red_e {G : Gl} (I : IsG G) {ki ks : List (Int × AV)} {avs : List (Str × AV)} {p pn sym ops tk fr nu na co : Addr} {pl lim pr : Int} {term : AV} {FO S : Hp} {Q : AV → Hp → Prop} (hp : (p, .inst 517 pn) ∈ S) {T : List AV} {tok : AV} (htk : (tk, .list T) ∈ S) (h0 : 0 ≤ pl) (h1 : pl < 1000) (ht : T[pl.toNat]? = some tok) {od pt it st : Addr} (ho : (ops, .inst 286 od) ∈ S) (hod : (od, .ns nmOp [some (.ref sym), some (.ref pt), some (.ref it), some (.ref st)]) ∈ S) {dx tl an fl fn : Addr} {fkv : List (List Int × AV)} (hx : (sym, .inst 154 dx) ∈ S) (hd : (dx, .ns nmSy [some (.ref tl), some (.ref an), some (.ref fl), some (.ref fn)]) ∈ S) (hfn : (fn, .dT fkv) ∈ S) (hit : (it, .dI ki) ∈ S) (hst : (st, .dI ks) ∈ S) (ha : (an, .dS avs) ∈ S) {l : List AV} (htok : tok = .tup (.str "end" :: l)) {x dx' il : Addr} {flm k fp : Int} {left : AV} {fl0 : List AV} (hz : fl0.length ≤ 1000) (hkn : term.known = true) (hln : left.known = true) (q : Q (.int 1) (FO ++ (pn, .ns nmPa (paV sym ops tk fr nu na co "codes" pl flm (redT left k term) fp)) :: (fr, .list fl0) :: S))  : CallOk G 7 (.ref 465) [.ref p] (((x, .inst 309 dx') :: (dx', .ns nmFr (frV "operator" flm k (-1) fp left il)) :: (FO ++ (pn, .ns nmPa (paV sym ops tk fr nu na co "codes" pl lim term pr)) :: (fr, .list (fl0 ++ [.ref x])) :: S))) Q := by
  refine CallOk.go'' (n := 6) (ps := ["self"]) (ls' := ["token", "a"]) (gs := ["WANT_OPERAND", "WANT_OPERATOR", "DONE"]) (FnIn.lit (by rw [I.k]; walk_at "FN") (by conv => lhs; whnf)) I.g rfl ?_
  rintro X rfl hn ⟨l0, l1, l2, -⟩ ⟨g0, g1, g2, -⟩
  have q_WANT_OPERAND := I.fs.gl.i_WANT_OPERAND
  have q_WANT_OPERATOR := I.fs.gl.i_WANT_OPERATOR
  have q_DONE := I.fs.gl.i_DONE
  have aFr_kind := I.fs.fr.a_kind
  have aPa_frames := I.fs.pa.a_frames
  have mPa_peek := I.fs.pa.m_peek
  have mPa_operator_name := I.fs.pa.m_operator_name
  have mPa_shift_infix := I.fs.pa.m_shift_infix
  have mPa_apply_postfix := I.fs.pa.m_apply_postfix
  have mPa_reduce := I.fs.pa.m_reduce
  dsimp only [padL, List.map, List.cons_append, List.nil_append, List.length_cons, List.length_nil, List.replicate, Nat.zero_add]
  subst htok
  walk_at "W"
  refine Cl.fn' (c_peek I (FO := ((x, .inst 309 dx') :: (dx', .ns nmFr (frV "operator" flm k (-1) fp left il)) :: FO)) (by walk_at "M") (by walk_at "M") h0 h1 ht ?_) (le_n hn (by decide))
  walk_at "W"
  refine Cl.fn' (c_opname_end I (FO := ((x, .inst 309 dx') :: (dx', .ns nmFr (frV "operator" flm k (-1) fp left il)) :: FO)) (by walk_at "M") ?_) (le_n hn (by decide))
  walk_at "W"
  refine andX_f (by decide) ?_
  refine ifX_f rfl ?_
  walk_at "W"
  refine andX_f (by decide) ?_
  refine ifX_f rfl ?_
  walk_at "W"
  try dsimp only [List.cons_append]
  refine TrAt.list (l := fl0 ++ [.ref x]) (by walk_at "M") (by simp; omega) ?_
  refine ifX_f (by simp) ?_
  walk_at "W"
  refine Op2.lastList rfl (by walk_at "M") (by omega) ?_
  walk_at "W"
  refine ifX_t rfl ?_
  walk_at "W"
  refine Cl.fn' (c_reduce I (by walk_at "M") hz hkn hln ?_) (le_n hn (by decide))
  walk_at "W"
  exact q
open PySem PySem.W PySem.Calls PyProof.Rows PySem.SeqAt
theorem Tr.known (t : Tr) : t.av.known = true := by cases t <;> rfl
theorem Tr.notNone (t : Tr) : t.av.isNone = false := by cases t <;> rfl
noncomputable def OpE.ent (O : OpE) (j : Nat) : AV := .tup [.int (O.lev j), .str (O.fix j)]
noncomputable def tokAV (O : OpE) (pos : Int) : Tk → AV
  | .int k => .tup [.str "int", .int k, .int pos]
  | .op j => .tup [.str "name", .str (O.nm j), .int pos]
  | .fin => .tup [.str "end", .str ".", .int pos]
structure PEnv (tok : Nat → Option Tk) (O : OpE) (S : Hp) (p pn sym ops tk dx tl an fl fn od pt it st : Addr) (T : List AV) (avs : List (Str × AV)) (fkv : List (List Int × AV)) (ki ks : List (Int × AV)) : Prop where
  hp : (p, .inst 517 pn) ∈ S
  htk : (tk, .list T) ∈ S
  hx : (sym, .inst 154 dx) ∈ S
  hd : (dx, .ns nmSy [some (.ref tl), some (.ref an), some (.ref fl), some (.ref fn)]) ∈ S
  ha : (an, .dS avs) ∈ S
  hfn : (fn, .dT fkv) ∈ S
  ho : (ops, .inst 286 od) ∈ S
  hod : (od, .ns nmOp [some (.ref sym), some (.ref pt), some (.ref it), some (.ref st)]) ∈ S
  hit : (it, .dI ki) ∈ S
  hst : (st, .dI ks) ∈ S
  toks : ∀ i t, tok i = some t → i < 999 ∧ ∃ pos, T[i]? = some (tokAV O pos t)
  num : ∀ i j, tok i = some (.op j) → aget avs (O.nm j) = some (.int (O.num j)) ∧ 0 ≤ O.num j
  inf : ∀ i j, tok i = some (.op j) → O.inf j = true → aget ki (O.num j) = some (O.ent j) ∧ aget ks (O.num j) = none ∧ aget fkv [O.num j, 2] = some (.int (O.fn j)) ∧ O.rgt j = (bnd (O.lev j) (O.fix j)).2
  post : ∀ i j, tok i = some (.op j) → O.inf j = false → aget ki (O.num j) = none ∧ aget ks (O.num j) = some (O.ent j) ∧ aget fkv [O.num j, 1] = some (.int (O.fn j))
  fn0 : ∀ i j, tok i = some (.op j) → 0 ≤ O.fn j
  lft : ∀ i j, tok i = some (.op j) → O.lft j = (bnd (O.lev j) (O.fix j)).1
/-- the frames, and where they lie -/
structure FmA where
  m : Fm
  x : Addr
  dx : Addr
  il : Addr
noncomputable def optAV : Option Tr → AV
  | none => .none
  | some t => t.av
theorem optAV_known (o : Option Tr) : (optAV o).known = true := by cases o with
  | none => rfl
  | some t => exact t.known
theorem optAV_redu (f : Fm) (t : Tr) : redT (optAV f.left) f.f t.av = (f.redu t).av := by
  unfold redT Fm.redu
  cases h : f.left with
  | none => simp [optAV, AV.isNone, Tr.av]
  | some l => simp [optAV, Tr.notNone, Tr.av]
noncomputable def fo : List FmA → Hp
  | [] => []
  | f :: r => (f.x, .inst 309 f.dx) :: (f.dx, .ns nmFr (frV "operator" f.m.lim f.m.f (-1) f.m.lv (optAV f.m.left) f.il)) :: fo r
noncomputable def frl : List FmA → List AV
  | [] => []
  | f :: r => frl r ++ [.ref f.x]
theorem frl_len : ∀ l, (frl l).length = l.length
  | [] => rfl
  | f :: r => by simp [frl, frl_len r]
theorem adm_ent (O : OpE) (j : Nat) (lim pr : Int) : adm (O.ent j) lim pr = (decide (O.lev j ≤ lim) && decide (pr ≤ (bnd (O.lev j) (O.fix j)).1)) := rfl
section
variable {G : Gl} {p pn sym ops tk fr nu na co dx tl an fl fn od pt it st : Addr} {T : List AV} {avs : List (Str × AV)} {fkv : List (List Int × AV)} {ki ks : List (Int × AV)} {tok : Nat → Option Tk} {O : OpE} {S : Hp}
/-- the parser's own part of the store -/
noncomputable abbrev paSt (p pn sym ops tk fr nu na co : Addr) (S : Hp) (L : List FmA) (pl lim : Int) (term : AV) (pr : Int) : Hp := fo L ++ (pn, .ns nmPa (paV sym ops tk fr nu na co "codes" pl lim term pr)) :: (fr, .list (frl L)) :: S
/-- blocked: the machine stops or reduces -/
theorem op_blocked_done (I : IsG G) (P : PEnv tok O S p pn sym ops tk dx tl an fl fn od pt it st T avs fkv ki ks) {s : PSt} (hb : blocked tok O s) {Q : AV → Hp → Prop}
    (q : Q (.int 2) (paSt p pn sym ops tk fr nu na co S [] s.pl s.lim s.term.av s.pr)) : CallOk G 7 (.ref 465) [.ref p] (paSt p pn sym ops tk fr nu na co S [] s.pl s.lim s.term.av s.pr) Q := by
  rcases hb with hb | ⟨j, hj, hb⟩
  · obtain ⟨h1, pos, h2⟩ := P.toks _ _ hb
    exact c_op_done_e I (FO := []) P.hp P.htk (by omega) (by omega) (by simpa [tokAV] using h2) P.ho P.hod P.hx P.hd P.hfn P.hit P.hst P.ha rfl q
  · obtain ⟨h1, pos, h2⟩ := P.toks _ _ hj
    obtain ⟨n1, n2⟩ := P.num _ _ hj
    have hadm : adm (O.ent j) s.lim s.pr = false := by
      rw [adm_ent, ← P.lft _ _ hj]; simp only [Bool.and_eq_false_iff, decide_eq_false_iff_not]
      by_cases h : O.lev j ≤ s.lim
      · exact .inr fun h' => hb ⟨h, h'⟩
      · exact .inl h
    cases hi : O.inf j with
    | true =>
      obtain ⟨e1, e2, _⟩ := P.inf _ _ hj hi
      exact c_op_done_n I (FO := []) P.hp P.htk (by omega) (by omega) (by simpa [tokAV] using h2) P.ho P.hod P.hx P.hd P.hfn P.hit P.hst P.ha rfl n1 n2 (e1 := O.ent j) (e2 := .none) (by rw [e1]; rfl) (.inr ⟨_, _, rfl⟩) (by rw [e2]; rfl) (.inl rfl) hadm rfl q
    | false =>
      obtain ⟨e1, e2, _⟩ := P.post _ _ hj hi
      exact c_op_done_n I (FO := []) P.hp P.htk (by omega) (by omega) (by simpa [tokAV] using h2) P.ho P.hod P.hx P.hd P.hfn P.hit P.hst P.ha rfl n1 n2 (e1 := .none) (e2 := O.ent j) (by rw [e1]; rfl) (.inl rfl) (by rw [e2]; rfl) (.inr ⟨_, _, rfl⟩) rfl hadm q
theorem op_blocked_red (I : IsG G) (P : PEnv tok O S p pn sym ops tk dx tl an fl fn od pt it st T avs fkv ki ks) {pl : Nat} {lim pr : Int} {term : Tr} {f : FmA} {L : List FmA} {fs : List Fm} (hb : blocked tok O ⟨pl, lim, term, pr, fs⟩) (hz : L.length ≤ 1000) {Q : AV → Hp → Prop}
    (q : Q (.int 1) (paSt p pn sym ops tk fr nu na co S L pl f.m.lim (f.m.redu term).av f.m.lv)) : CallOk G 7 (.ref 465) [.ref p] (paSt p pn sym ops tk fr nu na co S (f :: L) pl lim term.av pr) Q := by
  rw [← optAV_redu] at q
  have hz' : (frl L).length ≤ 1000 := by rw [frl_len]; exact hz
  rcases hb with hb | ⟨j, hj, hb⟩
  · obtain ⟨h1, pos, h2⟩ := P.toks _ _ hb
    exact c_op_red_e I (FO := fo L) P.hp P.htk (by omega) (by simp only at h1; omega) (by simpa [tokAV] using h2) P.ho P.hod P.hx P.hd P.hfn P.hit P.hst P.ha rfl hz' term.known (optAV_known _) q
  · obtain ⟨h1, pos, h2⟩ := P.toks _ _ hj
    obtain ⟨n1, n2⟩ := P.num _ _ hj
    have hadm : adm (O.ent j) lim pr = false := by
      rw [adm_ent, ← P.lft _ _ hj]; simp only [Bool.and_eq_false_iff, decide_eq_false_iff_not]
      by_cases h : O.lev j ≤ lim
      · exact .inr fun h' => hb ⟨h, h'⟩
      · exact .inl h
    cases hi : O.inf j with
    | true =>
      obtain ⟨e1, e2, _⟩ := P.inf _ _ hj hi
      exact c_op_red_n I (FO := fo L) P.hp P.htk (by omega) (by simp only at h1; omega) (by simpa [tokAV] using h2) P.ho P.hod P.hx P.hd P.hfn P.hit P.hst P.ha rfl n1 n2 (e1 := O.ent j) (e2 := .none) (by rw [e1]; rfl) (.inr ⟨_, _, rfl⟩) (by rw [e2]; rfl) (.inl rfl) hadm rfl hz' term.known (optAV_known _) q
    | false =>
      obtain ⟨e1, e2, _⟩ := P.post _ _ hj hi
      exact c_op_red_n I (FO := fo L) P.hp P.htk (by omega) (by simp only at h1; omega) (by simpa [tokAV] using h2) P.ho P.hod P.hx P.hd P.hfn P.hit P.hst P.ha rfl n1 n2 (e1 := .none) (e2 := O.ent j) (by rw [e1]; rfl) (.inl rfl) (by rw [e2]; rfl) (.inr ⟨_, _, rfl⟩) rfl hadm hz' term.known (optAV_known _) q
theorem op_do_post (I : IsG G) (P : PEnv tok O S p pn sym ops tk dx tl an fl fn od pt it st T avs fkv ki ks) {pl : Nat} {lim pr : Int} {term : Tr} {L : List FmA} {j : Nat} (hj : tok pl = some (.op j)) (hi : O.inf j = false) (h1 : O.lev j ≤ lim) (h2 : pr ≤ O.lft j) {Q : AV → Hp → Prop}
    (q : Q (.int 1) (paSt p pn sym ops tk fr nu na co S L ((pl + 1 : Nat) : Int) lim (Tr.un (O.fn j) term).av (O.lev j))) : CallOk G 7 (.ref 465) [.ref p] (paSt p pn sym ops tk fr nu na co S L pl lim term.av pr) Q := by
  obtain ⟨l1, pos, l2⟩ := P.toks _ _ hj
  obtain ⟨n1, n2⟩ := P.num _ _ hj
  obtain ⟨e1, e2, e3⟩ := P.post _ _ hj hi
  exact c_op_post I (FO := fo L) P.hp P.htk (by omega) (by omega) (by simpa [tokAV] using l2) P.ho P.hod P.hx P.hd P.hfn P.hit P.hst P.ha rfl n1 n2 (e1 := .none) (e2 := O.ent j) (by rw [e1]; rfl) (.inl rfl) (by rw [e2]; rfl) (.inr ⟨_, _, rfl⟩) rfl rfl term.known
    (by have := P.lft _ _ hj; show adm (O.ent j) lim pr = true; rw [adm_ent, ← this]; simp [h1, h2]) e3 (P.fn0 _ _ hj) q
theorem op_do_shift (I : IsG G) (P : PEnv tok O S p pn sym ops tk dx tl an fl fn od pt it st T avs fkv ki ks) {pl : Nat} {lim pr : Int} {term : Tr} {L : List FmA} {j : Nat} (hz : L.length ≤ 1000) (hj : tok pl = some (.op j)) (hi : O.inf j = true) (h1 : O.lev j ≤ lim) (h2 : pr ≤ O.lft j) {Q : AV → Hp → Prop}
    (q : ∀ x dx' il, Q (.int 0) (paSt p pn sym ops tk fr nu na co S (⟨⟨O.fn j, O.lev j, lim, some term⟩, x, dx', il⟩ :: L) ((pl + 1 : Nat) : Int) (O.rgt j) term.av pr)) : CallOk G 7 (.ref 465) [.ref p] (paSt p pn sym ops tk fr nu na co S L pl lim term.av pr) Q := by
  obtain ⟨l1, pos, l2⟩ := P.toks _ _ hj
  obtain ⟨n1, n2⟩ := P.num _ _ hj
  obtain ⟨e1, e2, e3, e4⟩ := P.inf _ _ hj hi
  refine c_op_shift I (FO := fo L) P.hp P.htk (by omega) (by omega) (by simpa [tokAV] using l2) P.ho P.hod P.hx P.hd P.hfn P.hit P.hst P.ha rfl n1 n2 (e1 := O.ent j) (e2 := .none) (by rw [e1]; rfl) (.inr ⟨_, _, rfl⟩) (by rw [e2]; rfl) (.inl rfl) rfl (by rw [frl_len]; exact hz) term.known
    (by have := P.lft _ _ hj; show adm (O.ent j) lim pr = true; rw [adm_ent, ← this]; simp [h1, h2]) e3 (P.fn0 _ _ hj) fun x dx' il => ?_
  have := q x dx' il
  rw [e4] at this
  exact this
end
theorem c_parse {G : Gl} (I : IsG G) {p pn sym ops tk fr nu na co dx tl an fl fn od pt it st : Addr} {T : List AV} {avs : List (Str × AV)} {fkv : List (List Int × AV)} {ki ks : List (Int × AV)} {tok : Nat → Option Tk} {O : OpE} {S : Hp} (P : PEnv tok O S p pn sym ops tk dx tl an fl fn od pt it st T avs fkv ki ks) {n : Nat} {most k0 : Int} {r : PSt} (h0 : tok 0 = some (.int k0)) (hr : Run tok O n ⟨1, most, .num k0, 0, []⟩ r) (hz : n + 1 ≤ 900) {lim0 : Int} {Q : AV → Hp → Prop} (q : Q (.tup [r.term.av, .int r.pr]) (paSt p pn sym ops tk fr nu na co S [] r.pl r.lim r.term.av r.pr)) : CallOk G 9 (.ref 397) [.ref p, .int most] (paSt p pn sym ops tk fr nu na co S [] 0 lim0 .none 0) Q := by
  refine CallOk.go'' (n := 8) (ps := ["self", "most"]) (ls' := ["state"]) (gs := ["WANT_OPERAND", "DONE"]) (FnIn.lit (by rw [I.k]; walk_at "FN") (by conv => lhs; whnf)) I.g rfl ?_
  rintro X rfl hn ⟨l0, l1, l2, -⟩ ⟨g0, g1, -⟩
  have q_WANT_OPERAND := I.fs.gl.i_WANT_OPERAND
  have q_DONE := I.fs.gl.i_DONE
  have aFr_limit := I.fs.fr.a_limit
  have aFr_priority := I.fs.fr.a_priority
  have stFr := I.fs.fr.st
  have aPa_limit := I.fs.pa.a_limit
  have aPa_term := I.fs.pa.a_term
  have aPa_priority := I.fs.pa.a_priority
  have mPa_operand := I.fs.pa.m_operand
  have mPa_operator := I.fs.pa.m_operator
  have stPa := I.fs.pa.st
  dsimp only [padL, List.map, List.cons_append, List.nil_append, List.length_cons, List.length_nil, List.replicate, Nat.zero_add]
  obtain ⟨hp, htk, hx, hd, ha, hfn, ho, hod, hit, hst, -⟩ := id P
  have hkr := r.term.known
  walk_at "W"
  refine Xs.while (fun n m σ => ∃ w, m = [some (.ref p), some (.int most), some (.int w)] ∧
    ((w = 1 ∧ ∃ (s : PSt) (L : List FmA), Run tok O n s r ∧ s.fs = L.map (·.m) ∧ L.length + n ≤ 900 ∧ σ = paSt p pn sym ops tk fr nu na co S L s.pl s.lim s.term.av s.pr) ∨
     (w = 0 ∧ ∃ (n' : Nat) (s : PSt) (L : List FmA) (k : Int) (av : AV) (pr : Int), n = n' + 1 ∧ tok s.pl = some (.int k) ∧ Run tok O n' ⟨s.pl + 1, s.lim, .num k, 0, s.fs⟩ r ∧ s.fs = L.map (·.m) ∧ L.length + n ≤ 900 ∧ σ = paSt p pn sym ops tk fr nu na co S L s.pl s.lim av pr) ∨
     (w = 2 ∧ r.fs = [] ∧ σ = paSt p pn sym ops tk fr nu na co S [] r.pl r.lim r.term.av r.pr))) ?_ (n + 1) ⟨0, rfl, .inr (.inl ⟨rfl, n, ⟨0, most, .num k0, 0, []⟩, [], k0, .none, 0, rfl, h0, hr, rfl, by simpa using hz, rfl⟩)⟩
  rintro n m σ ⟨w, rfl, ⟨rfl, s, L, hR, hfs, hL, rfl⟩ | ⟨rfl, n', s, L, k, av, pr, rfl, hk, hR, hfs, hL, rfl⟩ | ⟨rfl, hf, rfl⟩⟩
  · walk_at "W"
    show Xs _ _ _ _ _ _
    walk_at "W"
    refine ifX_f rfl ?_
    walk_at "W"
    cases hR with
    | fin hb hf =>
      obtain rfl : L = [] := by simpa [hf] using hfs.symm
      refine Cl.fn' (op_blocked_done I P hb ?_) (le_n hn (by decide))
      walk_at "W"
      exact ⟨0, by omega, 2, rfl, .inr (.inr ⟨rfl, hf, rfl⟩)⟩
    | @red n pl lim term pr f fs _ hb hR =>
      cases L with
      | nil => simp at hfs
      | cons g L =>
        simp only [List.map_cons, List.cons.injEq] at hfs
        obtain ⟨rfl, rfl⟩ := hfs
        refine Cl.fn' (op_blocked_red I P hb (by simp at hL; omega) ?_) (le_n hn (by decide))
        walk_at "W"
        exact ⟨n, by omega, 1, rfl, .inl ⟨rfl, _, L, hR, rfl, by simp at hL; omega, rfl⟩⟩
    | @shift n s j k _ hj hi h1 h2 hk hR =>
      refine Cl.fn' (op_do_shift I P (by omega) hj hi h1 h2 fun x dx' il => ?_) (le_n hn (by decide))
      walk_at "W"
      exact ⟨n + 1, by omega, 0, rfl, .inr (.inl ⟨rfl, n, ⟨s.pl + 1, O.rgt j, s.term, s.pr, ⟨O.fn j, O.lev j, s.lim, some s.term⟩ :: s.fs⟩, _, k, _, _, rfl, hk, hR, by simp [hfs], by simp; omega, rfl⟩)⟩
    | @post n s j _ hj hi h1 h2 hR =>
      refine Cl.fn' (op_do_post I P hj hi h1 h2 ?_) (le_n hn (by decide))
      walk_at "W"
      exact ⟨n, by omega, 1, rfl, .inl ⟨rfl, _, L, hR, hfs, by omega, rfl⟩⟩
  · walk_at "W"
    show Xs _ _ _ _ _ _
    walk_at "W"
    refine ifX_t rfl ?_
    walk_at "W"
    obtain ⟨t1, pos, t2⟩ := P.toks _ _ hk
    refine Cl.fn' (c_operand_int I (FO := fo L) (by walk_at "M") (by walk_at "M") (by omega) (by omega) (by simpa [tokAV] using t2) ?_) (le_n hn (by decide))
    walk_at "W"
    exact ⟨n', by omega, 1, rfl, .inl ⟨rfl, _, L, hR, hfs, by omega, rfl⟩⟩
  · walk_at "W"
    show thenX _ _ _ _ _ _ _
    walk_at "W"
    exact q
open PySem PySem.W PySem.Calls PyProof.Rows PySem.SeqAt
noncomputable def Dig (l : List Int) : Prop := ∀ x ∈ l, 0 ≤ x ∧ x < 96
theorem Dig.nil : Dig [] := fun x h => by simp at h
theorem Dig.snoc {l : List Int} (h : Dig l) (a : Int) : Dig (l ++ [a.fmod 96]) := by
  intro x hx
  rcases List.mem_append.mp hx with hx | hx
  · exact h x hx
  · obtain rfl : x = a.fmod 96 := by simpa using hx
    exact ⟨Int.fmod_nonneg_of_pos a (by decide), Int.fmod_lt_of_pos a (by decide)⟩
theorem div_pow {r : Int} {n : Nat} (h0 : 0 < r) (h : r < 96 ^ n) : ∃ k, n = k + 1 ∧ 0 ≤ r.fdiv 96 ∧ r.fdiv 96 < 96 ^ k := by
  cases n with
  | zero => simp at h; omega
  | succ k =>
    refine ⟨k, rfl, ?_, ?_⟩
    · rw [Int.fdiv_eq_ediv_of_nonneg _ (by decide)]; omega
    · rw [Int.fdiv_eq_ediv_of_nonneg _ (by decide)]
      rw [Int.pow_succ] at h
      omega
noncomputable def sides1 (c : Nat) (lv : Int) : Int := if ((⟨#[c]⟩ : Str) == "y") = true then lv else lv - 1
theorem c_sides {G : Gl} (I : IsG G) {lv : Int} {fix : Str} {c0 c1 : Nat} {σ : Hp} {Q : AV → Hp → Prop} (h0 : (seqIndex? 0 fix.length).bind (fix.cps[·]?) = some c0) (h1 : (seqIndex? (-1) fix.length).bind (fix.cps[·]?) = some c1) (q : Q (.tup [.int (sides1 c0 lv), .int (sides1 c1 lv)]) σ) : CallOk G 1 (.ref 535) [.int lv, .str fix] σ Q := by
  refine CallOk.go'' (n := 0) (ps := ["level", "fix"]) (ls' := ["left", "right"]) (gs := []) (FnIn.lit (by rw [I.k]; walk_at "FN") (by conv => lhs; whnf)) I.g rfl ?_
  rintro X rfl hn ⟨l0, l1, l2, l3, -⟩ -
  dsimp only [padL, List.map, List.cons_append, List.nil_append, List.length_cons, List.length_nil, List.replicate, Nat.zero_add]
  unfold sides1 at q
  walk_at "W"
  refine Op2.itStr rfl (by decide) (by decide) h0 ?_
  walk_at "W"
  refine ifE_c (fun e0 => ?_) (fun e0 => ?_)
  · rw [if_pos e0] at q
    walk_at "W"
    refine Op2.itStr rfl (by decide) (by decide) h1 ?_
    walk_at "W"
    refine ifE_c (fun e1 => ?_) (fun e1 => ?_)
    · rw [if_pos e1] at q
      walk_at "W"
      exact q
    · rw [if_neg (by rw [e1]; decide)] at q
      walk_at "W"
      exact q
  · rw [if_neg (by rw [e0]; decide)] at q
    walk_at "W"
    refine Op2.itStr rfl (by decide) (by decide) h1 ?_
    walk_at "W"
    refine ifE_c (fun e1 => ?_) (fun e1 => ?_)
    · rw [if_pos e1] at q
      walk_at "W"
      exact q
    · rw [if_neg (by rw [e1]; decide)] at q
      walk_at "W"
      exact q
theorem c_figures {G : Gl} (I : IsG G) {wl : Addr} {ns : List Int} {wn : Nat} {σ : Hp} {Q : AV → Hp → Prop} (hl : ∀ σ, LAt G σ wl (ns.map .int)) (hz : ns.length ≤ 100) (hw : wn ≤ 30) (q : ∀ z fg, fg.length = wn → Dig fg → Q (.ref z) ((z, .list (fg.map .int)) :: σ)) : CallOk G 4 (.ref 528) [.ref wl, .int wn] σ Q := by
  refine CallOk.go'' (n := 3) (ps := ["script", "wanted"]) (ls' := ["row", "cell", "rest"]) (gs := ["int", "len"]) (FnIn.lit (by rw [I.k]; walk_at "FN") (by conv => lhs; whnf)) I.g rfl ?_
  rintro X rfl hn ⟨l0, l1, l2, l3, l4, -⟩ ⟨g0, g1, -⟩
  have q_int := I.fs.gl.b_int
  have q_len := I.fs.gl.b_len
  dsimp only [padL, List.map, List.cons_append, List.nil_append, List.length_cons, List.length_nil, List.replicate, Nat.zero_add]
  refine Xs.weak ?_
  walk_at "W"
  intro ra _
  walk_at "W"
  refine Xs.forList (by walk_at "L") (fun _ => rfl) ?_
  refine Ev.sliceTo ?_
  walk_at "W"
  refine ⟨wl, ns.map .int, wn, rfl, rfl, by omega, hl _, by simp; omega, fun y => ?_⟩
  refine ⟨y, _, rfl, .own (by walk_at "M"), fun i m σ' => ∃ (digs : List Int) (c r : Option AV), m = [some (.ref wl), some (.int wn), some (.ref ra), c, r] ∧ σ' = (y, .list ((ns.map .int).take (wn : Int).toNat)) :: (ra, .list (digs.map .int)) :: σ ∧ Dig digs ∧ digs.length ≤ 30 * i ∧ i ≤ 100, ⟨[], _, _, rfl, rfl, .nil, by simp, by simp⟩, ?_, ?_, ?_⟩
  · rintro i m σ' ⟨digs, c, r, rfl, rfl, -⟩
    exact .own (by walk_at "M")
  · rintro i a m σ' ha ⟨digs, c, r, rfl, rfl, hd, hlen, hi⟩
    have hi2 := (List.getElem?_eq_some_iff.mp ha).1
    rw [List.length_take, List.length_map] at hi2
    obtain ⟨v, hv, rfl⟩ : ∃ v, True ∧ a = .int v := by
      have := List.mem_of_getElem? ha
      have := List.mem_of_mem_take this
      obtain ⟨v, _, rfl⟩ := List.mem_map.mp this
      exact ⟨v, trivial, rfl⟩
    refine ⟨_, .there (.there (.there .here)), ?_⟩
    walk_at "W"
    refine Op2.pow (by decide) (by decide) (by decide) ?_
    refine Op2.mod (by decide) ?_
    walk_at "W"
    refine Op2.mod (by decide) ?_
    walk_at "W"
    refine Cl.append (by walk_at "U") (by simp; omega) ?_
    walk_at "W"
    refine Xs.aug (by walk_at "L") (by walk_at "GA") ?_
    walk_at "W"
    refine Op2.ifdiv (by decide) (PyProof.noPylong_small (by decide)) ?_
    walk_at "W"
    have hb : 0 ≤ Int.fmod v (96 ^ Int.toNat 24) ∧ Int.fmod v (96 ^ Int.toNat 24) < 96 ^ 24 := ⟨Int.fmod_nonneg_of_pos v (by decide), Int.fmod_lt_of_pos v (by decide)⟩
    revert hb
    generalize Int.fmod v (96 ^ Int.toNat 24) = x
    intro hb
    have hq : 0 ≤ x.fdiv 96 ∧ x.fdiv 96 < 96 ^ 24 := by
      rw [Int.fdiv_eq_ediv_of_nonneg _ (by decide)]
      obtain ⟨h1, h2⟩ := hb
      constructor <;> omega
    refine Xs.while (fun n m σ' => ∃ (digs : List Int) (r : Int), m = [some (.ref wl), some (.int wn), some (.ref ra), some (.int v), some (.int r)] ∧ σ' = (y, .list ((ns.map .int).take (wn : Int).toNat)) :: (ra, .list (digs.map .int)) :: σ ∧ Dig digs ∧ digs.length + n ≤ 30 * i + 26 ∧ 0 ≤ r ∧ r < 96 ^ n) ?_ 24 ⟨digs ++ [x.fmod 96], x.fdiv 96, rfl, by simp, hd.snoc x, by simp; omega, hq.1, hq.2⟩
    rintro n m σ' ⟨digs', r', rfl, rfl, hd', hlen', hr1, hr2⟩
    walk_at "W"
    by_cases hpos : 0 < r'
    · rw [decide_eq_true hpos]
      obtain ⟨k, rfl, hk1, hk2⟩ := div_pow hpos hr2
      show Xs _ _ _ _ _ _
      walk_at "W"
      refine Op2.mod (by decide) ?_
      walk_at "W"
      refine Cl.append (by walk_at "U") (by simp; omega) ?_
      walk_at "W"
      refine Xs.aug (by walk_at "L") (by walk_at "GA") ?_
      walk_at "W"
      refine Op2.ifdiv (by decide) (PyProof.noPylong_small (by decide)) ?_
      walk_at "W"
      exact ⟨k, by omega, digs' ++ [r'.fmod 96], _, rfl, by simp, hd'.snoc r', by simp; omega, hk1, hk2⟩
    · rw [decide_eq_false hpos]
      show thenX _ _ _ _ _ _ _
      walk_at "W"
      refine Cl.len (by walk_at "M") (by simp; omega) ?_
      walk_at "W"
      refine ifX_c (fun hc => ?_) (fun hc => ?_)
      · walk_at "W"
        walk_at "W"
        intro z1 _
        walk_at "W"
        refine Op2.rep (by walk_at "M") (by omega) (by omega) fun z2 => ?_
        refine Op2.cat (by walk_at "M") (by walk_at "M") (by simp; omega) fun z3 => ?_
        walk_at "W"
        refine ⟨z3, _, wn, rfl, rfl, by omega, .own (by walk_at "M"), by simp; omega, fun z4 => ?_⟩
        walk_at "W"
        refine ⟨_, .skip (.cut (.cut (.cut (.cut (.cut (.refl _)))))), ?_⟩
        have e : (List.map AV.int digs' ++ List.replicate (wn : Int).toNat (AV.int 0)).take (wn : Int).toNat = ((digs' ++ List.replicate wn (0 : Int)).take wn).map AV.int := by
          simp [List.map_take]
        rw [e]
        refine q z4 _ (by simp) fun x hx => ?_
        rcases List.mem_append.mp (List.mem_of_mem_take hx) with hx | hx
        · exact hd' x hx
        · obtain ⟨-, rfl⟩ := List.mem_replicate.mp hx
          decide
      · walk_at "W"
        exact ⟨digs', _, _, rfl, rfl, hd', by omega, by omega⟩
  · rintro m σ' ⟨digs, c, r, rfl, rfl, hd, hlen, hi⟩
    walk_at "W"
    intro z1 _
    walk_at "W"
    refine Op2.rep (by walk_at "M") (by omega) (by omega) fun z2 => ?_
    refine Op2.cat (by walk_at "M") (by walk_at "M") (by simp; omega) fun z3 => ?_
    walk_at "W"
    refine ⟨z3, _, wn, rfl, rfl, by omega, .own (by walk_at "M"), by simp; omega, fun z4 => ?_⟩
    walk_at "W"
    refine ⟨_, .skip (.cut (.cut (.cut (.cut (.cut (.refl _)))))), ?_⟩
    have e : (List.map AV.int digs ++ List.replicate (wn : Int).toNat (AV.int 0)).take (wn : Int).toNat = ((digs ++ List.replicate wn (0 : Int)).take wn).map AV.int := by
      simp [List.map_take]
    rw [e]
    refine q z4 _ (by simp) fun x hx => ?_
    rcases List.mem_append.mp (List.mem_of_mem_take hx) with hx | hx
    · exact hd x hx
    · obtain ⟨-, rfl⟩ := List.mem_replicate.mp hx
      decide
open PySem PySem.W PySem.Calls PyProof.Rows PySem.SeqAt
noncomputable def Tr.h : Tr → Nat
  | .num _ => 3
  | .un _ x => x.h + 1
  | .bin _ l r => max l.h r.h + 1
structure UE where
  nm : Int → Str
  lev : Int → Int
  lft : Int → Int
  rgt : Int → Int
noncomputable def Tr.prio (U : UE) : Tr → Int
  | .num _ => 0
  | .un f x => if x.prio U ≤ U.lft f then U.lev f else 9999
  | .bin f l r => if l.prio U ≤ U.lft f ∧ r.prio U ≤ U.rgt f then U.lev f else 9999
noncomputable def Tr.flat (U : UE) : Tr → List AV
  | .num k => [.tup [.str "i", .int k]]
  | .un f x => x.flat U ++ [.str (U.nm f)]
  | .bin f l r => l.flat U ++ [.str (U.nm f)] ++ r.flat U
noncomputable def Tr.all (P : Int → Prop) : Tr → Prop
  | .num _ => True
  | .un f x => P f ∧ x.all P
  | .bin f l r => P f ∧ l.all P ∧ r.all P
noncomputable def Tr.sz : Tr → Nat
  | .num _ => 1
  | .un _ x => x.sz + 1
  | .bin _ l r => l.sz + r.sz + 1
theorem Tr.flat_len (U : UE) : ∀ t : Tr, (t.flat U).length = t.sz
  | .num _ => rfl
  | .un f x => by simp [Tr.flat, Tr.sz, Tr.flat_len U x]
  | .bin f l r => by simp [Tr.flat, Tr.sz, Tr.flat_len U l, Tr.flat_len U r]; omega
theorem Tr.h3 (t : Tr) : 3 ≤ t.h := by
  induction t with
  | num => exact Nat.le_refl _
  | un f x ih => simp only [Tr.h]; omega
  | bin f l r ih1 ih2 => simp only [Tr.h]; omega
structure UOk (U : UE) (kd : List (Int × AV)) (en : List (Str × AV)) (f : Int) : Prop where
  nm : aget kd f = some (.str (U.nm f))
  ne : (U.nm f == "") = false
  en : aget en (U.nm f) = some (.tup [.int (U.lev f), .int (U.lft f), .int (U.rgt f)])
theorem c_unfold {G : Gl} (I : IsG G) {U : UE} {ka ea : Addr} {kd : List (Int × AV)} {en : List (Str × AV)} (t : Tr) : ∀ {σ : Hp} {Q : AV → Hp → Prop}, t.all (UOk U kd en) → (ka, .dI kd) ∈ σ → (ea, .dS en) ∈ σ → t.sz ≤ 1000 →
    (∀ y, Q (.tup [.ref y, .int (t.prio U)]) ((y, .list (t.flat U)) :: σ)) → CallOk G t.h (.ref 549) [t.av, .ref ka, .ref ea] σ Q := by
  induction t with
  | num k =>
    intro σ Q hu hka hea hz q
    obtain ⟨-, -, -, -, ⟨⟩⟩ := I.fs
    refine CallOk.go'' (n := 2) (ps := ["term", "kinds", "entries"]) (ls' := ["name", "level", "left", "right", "row", "high", "good", "behind"]) (gs := ["_law_unfold", "len"]) (FnIn.lit (by rw [I.k]; walk_at "FN") (by conv => lhs; whnf)) I.g rfl ?_
    rintro X rfl hn ⟨l0, l1, l2, l3, l4, l5, l6, l7, l8, l9, l10, -⟩ ⟨g0, g1, -⟩
    dsimp only [padL, Tr.av, List.map, List.cons_append, List.nil_append, List.length_cons, List.length_nil, List.replicate, Nat.zero_add]
    refine Xs.weak ?_
    walk_at "W"
    refine ifX_t rfl ?_
    walk_at "W"
    intro y _
    walk_at "W"
    exact ⟨_, .refl _, q y⟩
  | un f x ihx =>
    intro σ Q hu hka hea hz q
    have h3 := x.h3
    obtain ⟨⟨u1, u2, u3⟩, ux⟩ := hu
    obtain ⟨-, -, -, -, ⟨⟩⟩ := I.fs
    refine CallOk.go'' (n := x.h) (ps := ["term", "kinds", "entries"]) (ls' := ["name", "level", "left", "right", "row", "high", "good", "behind"]) (gs := ["_law_unfold", "len"]) (FnIn.lit (by rw [I.k]; walk_at "FN") (by conv => lhs; whnf)) I.g rfl ?_
    rintro X rfl hn ⟨l0, l1, l2, l3, l4, l5, l6, l7, l8, l9, l10, -⟩ ⟨g0, g1, -⟩
    dsimp only [padL, Tr.av, List.map, List.cons_append, List.nil_append, List.length_cons, List.length_nil, List.replicate, Nat.zero_add]
    refine Xs.weak ?_
    walk_at "W"
    refine ifX_f rfl ?_
    walk_at "W"
    rw [u1, Option.getD_some]
    walk_at "W"
    refine orX_f rfl ?_
    walk_at "W"
    refine orX_f u2 ?_
    walk_at "W"
    refine ifX_f rfl ?_
    walk_at "W"
    refine Op2.itDS rfl (by omega) (by walk_at "M") u3 ?_
    walk_at "W"
    refine Cl.fn' (ihx ux (by walk_at "M") (by walk_at "M") (by simp only [Tr.sz] at hz; omega) fun y => ?_) (by omega)
    walk_at "W"
    intro z _
    walk_at "W"
    have hlen := Tr.flat_len U x
    simp only [Tr.sz] at hz
    refine Op2.cat (by walk_at "M") (by walk_at "M") (by simp; omega) fun w => ?_
    walk_at "W"
    refine ifX_f rfl ?_
    walk_at "W"
    by_cases hp : x.prio U ≤ U.lft f
    · rw [decide_eq_true hp]
      refine ifE_t rfl ?_
      walk_at "W"
      refine ⟨_, .skip (.cut (.cut (.refl _))), ?_⟩
      have := q w
      simp only [Tr.prio, if_pos hp, Tr.flat] at this
      exact this
    · rw [decide_eq_false hp]
      refine ifE_f rfl ?_
      walk_at "W"
      refine ⟨_, .skip (.cut (.cut (.refl _))), ?_⟩
      have := q w
      simp only [Tr.prio, if_neg hp, Tr.flat] at this
      exact this
  | bin f l r ihl ihr =>
    intro σ Q hu hka hea hz q
    have h3 := l.h3
    obtain ⟨⟨u1, u2, u3⟩, ul, ur⟩ := hu
    obtain ⟨-, -, -, -, ⟨⟩⟩ := I.fs
    refine CallOk.go'' (n := max l.h r.h) (ps := ["term", "kinds", "entries"]) (ls' := ["name", "level", "left", "right", "row", "high", "good", "behind"]) (gs := ["_law_unfold", "len"]) (FnIn.lit (by rw [I.k]; walk_at "FN") (by conv => lhs; whnf)) I.g rfl ?_
    rintro X rfl hn ⟨l0, l1, l2, l3, l4, l5, l6, l7, l8, l9, l10, -⟩ ⟨g0, g1, -⟩
    dsimp only [padL, Tr.av, List.map, List.cons_append, List.nil_append, List.length_cons, List.length_nil, List.replicate, Nat.zero_add]
    refine Xs.weak ?_
    walk_at "W"
    refine ifX_f rfl ?_
    walk_at "W"
    rw [u1, Option.getD_some]
    walk_at "W"
    refine orX_f rfl ?_
    walk_at "W"
    refine orX_f u2 ?_
    walk_at "W"
    refine ifX_f rfl ?_
    walk_at "W"
    refine Op2.itDS rfl (by omega) (by walk_at "M") u3 ?_
    walk_at "W"
    refine Cl.fn' (ihl ul (by walk_at "M") (by walk_at "M") (by simp only [Tr.sz] at hz; omega) fun y => ?_) (by omega)
    walk_at "W"
    intro z _
    walk_at "W"
    have hlen := Tr.flat_len U l
    have hlen2 := Tr.flat_len U r
    simp only [Tr.sz] at hz
    refine Op2.cat (by walk_at "M") (by walk_at "M") (by simp; omega) fun w => ?_
    walk_at "W"
    refine ifX_t rfl ?_
    walk_at "W"
    refine Cl.fn' (ihr ur (by walk_at "M") (by walk_at "M") (by omega) fun y2 => ?_) (by omega)
    walk_at "W"
    by_cases hp : l.prio U ≤ U.lft f
    · rw [decide_eq_true hp]
      refine andV_t rfl ?_
      walk_at "W"
      refine Op2.cat (by walk_at "M") (by walk_at "M") (by simp; omega) fun w2 => ?_
      walk_at "W"
      by_cases hp2 : r.prio U ≤ U.rgt f
      · rw [decide_eq_true hp2]
        refine ifE_t rfl ?_
        walk_at "W"
        refine ⟨_, .skip (.cut (.cut (.cut (.cut (.refl _))))), ?_⟩
        have := q w2
        simp only [Tr.prio, if_pos (And.intro hp hp2), Tr.flat] at this
        exact this
      · rw [decide_eq_false hp2]
        refine ifE_f rfl ?_
        walk_at "W"
        refine ⟨_, .skip (.cut (.cut (.cut (.cut (.refl _))))), ?_⟩
        have := q w2
        simp only [Tr.prio, if_neg (fun h : l.prio U ≤ U.lft f ∧ r.prio U ≤ U.rgt f => hp2 h.2), Tr.flat] at this
        exact this
    · rw [decide_eq_false hp]
      refine andV_f rfl ?_
      walk_at "W"
      refine Op2.cat (by walk_at "M") (by walk_at "M") (by simp; omega) fun w2 => ?_
      walk_at "W"
      refine ifE_f rfl ?_
      walk_at "W"
      refine ⟨_, .skip (.cut (.cut (.cut (.cut (.refl _))))), ?_⟩
      have := q w2
      simp only [Tr.prio, if_neg (fun h : l.prio U ≤ U.lft f ∧ r.prio U ≤ U.rgt f => hp h.1), Tr.flat] at this
      exact this
open PySem
section
variable {O : OpE} {P : List Pt}
structure LvOk (O : OpE) (j : Nat) : Prop where
  l1 : O.lft j ≤ O.lev j
  r1 : O.rgt j ≤ O.lev j
  r0 : 0 ≤ O.rgt j
noncomputable abbrev Ch := List (Int × Int)
inductive Acc (O : OpE) (P : List Pt) : Ch → Nat → Nat → Prop
  | done {c e} : Acc O P c e e
  | red {x y r pos e} : Acc O P (y :: r) pos e → Acc O P (x :: y :: r) pos e
  | inf {p l r pos e j} : P[pos]? = some (.op j) → O.inf j = true → O.lev j ≤ l → p ≤ O.lft j → Acc O P ((0, O.rgt j) :: (O.lev j, l) :: r) (pos + 2) e → Acc O P ((p, l) :: r) pos e
  | post {p l r pos e j} : P[pos]? = some (.op j) → O.inf j = false → O.lev j ≤ l → p ≤ O.lft j → Acc O P ((O.lev j, l) :: r) (pos + 1) e → Acc O P ((p, l) :: r) pos e
theorem Acc.of_rd {a b : Nat} {p : Int} (h : Rd O P a b p) (hO : ∀ j, Pt.op j ∈ P → LvOk O j) : ∀ {l : Int} {r : Ch} {e : Nat}, p ≤ l → Acc O P ((p, l) :: r) b e → Acc O P ((0, l) :: r) (a + 1) e := by
  induction h with
  | num h => intro l r e _ k; exact k
  | @post a b j p h h1 h2 h3 ih =>
    intro l r e hl k
    have := (hO j (List.mem_of_getElem? h1)).l1
    exact ih (by omega) (.post h1 h2 hl h3 k)
  | @bin a m b j p q h h1 h2 h3 h4 h5 ih1 ih2 =>
    intro l r e hl k
    have := (hO j (List.mem_of_getElem? h1)).l1
    exact ih1 (by omega) (.inf h1 h2 hl h3 (ih2 h5 (.red k)))
theorem Acc.drop {A : Ch} {x : Int × Int} {r : Ch} {pos e : Nat} (h : Acc O P (x :: r) pos e) : Acc O P (A ++ x :: r) pos e := by
  induction A with
  | nil => exact h
  | cons a A ih =>
    cases A with
    | nil => exact .red h
    | cons b A => exact .red ih
theorem sub_split {x : Int × Int} {r c : Ch} (h : (x :: r).Sublist c) : ∃ A r', c = A ++ x :: r' ∧ r.Sublist r' := by
  induction c with
  | nil => cases h
  | cons y c ih =>
    cases h with
    | cons _ h => obtain ⟨A, r', rfl, hs⟩ := ih h; exact ⟨y :: A, r', rfl, hs⟩
    | cons_cons _ h => exact ⟨[], c, rfl, h⟩
theorem Acc.mono {d : Ch} {pos e : Nat} (h : Acc O P d pos e) : ∀ {c : Ch}, d.Sublist c → Acc O P c pos e := by
  induction h with
  | done => intro c _; exact .done
  | red h ih => intro c hs; exact ih (.trans (.cons _ (.refl _)) hs)
  | inf h1 h2 h3 h4 h5 ih =>
    intro c hs
    obtain ⟨A, r', rfl, hs2⟩ := sub_split hs
    exact .drop (.inf h1 h2 h3 h4 (ih (.cons_cons _ (.cons_cons _ hs2))))
  | post h1 h2 h3 h4 h5 ih =>
    intro c hs
    obtain ⟨A, r', rfl, hs2⟩ := sub_split hs
    exact .drop (.post h1 h2 h3 h4 (ih (.cons_cons _ hs2)))
/-- sorted: pr ≤ lim ≤ pr ≤ .. -/
inductive Srt : Ch → Prop
  | one {p l} : p ≤ l → Srt [(p, l)]
  | cons {p l p' l' r} : p ≤ l → l ≤ p' → Srt ((p', l') :: r) → Srt ((p, l) :: (p', l') :: r)
theorem Srt.tail {x y : Int × Int} {r : Ch} (h : Srt (x :: y :: r)) : Srt (y :: r) := by cases h; assumption
theorem Srt.le {p l : Int} {r : Ch} (h : Srt ((p, l) :: r)) : p ≤ l := by cases h <;> assumption
theorem Srt.mem {r : Ch} : ∀ {p l : Int}, Srt ((p, l) :: r) → ∀ x ∈ r, l ≤ x.1 := by
  induction r with
  | nil => intro p l _ x hx; cases hx
  | cons y r ih =>
    intro p l h x hx
    cases h with
    | @cons _ _ p' l' _ h1 h2 h3 =>
      rcases List.mem_cons.mp hx with rfl | hx
      · exact h2
      · have := ih h3 x hx; have := h3.le; omega
/-- what a free run does with the next operator -/
theorem Acc.next {c : Ch} {pos e : Nat} (h : Acc O P c pos e) (hne : e ≠ pos) : ∃ A p l r j, c = A ++ (p, l) :: r ∧ P[pos]? = some (.op j) ∧ O.lev j ≤ l ∧ p ≤ O.lft j ∧
    ((O.inf j = true ∧ Acc O P ((0, O.rgt j) :: (O.lev j, l) :: r) (pos + 2) e) ∨ (O.inf j = false ∧ Acc O P ((O.lev j, l) :: r) (pos + 1) e)) := by
  induction h with
  | done => exact absurd rfl hne
  | red h ih => obtain ⟨A, p, l, r, j, e1, h⟩ := ih hne; exact ⟨_ :: A, p, l, r, j, by rw [e1]; rfl, h⟩
  | inf h1 h2 h3 h4 h5 => exact ⟨[], _, _, _, _, rfl, h1, h3, h4, .inl ⟨h2, h5⟩⟩
  | post h1 h2 h3 h4 h5 => exact ⟨[], _, _, _, _, rfl, h1, h3, h4, .inr ⟨h2, h5⟩⟩
noncomputable def PSt.ch (s : PSt) : Ch := (s.pr, s.lim) :: s.fs.map fun f => (f.lv, f.lim)
noncomputable def tokOf (P : List Pt) (i : Nat) : Option Tk := match P[i]? with
  | some (.num k) => some (.int k)
  | some (.op j) => some (.op j)
  | none => if i = P.length then some .fin else none
theorem tok_op {i j : Nat} : tokOf P i = some (.op j) ↔ P[i]? = some (.op j) := by
  unfold tokOf
  cases h : P[i]? with
  | none => by_cases e : i = P.length <;> simp [e]
  | some x => cases x <;> simp
theorem tok_int {i : Nat} {k : Int} : tokOf P i = some (.int k) ↔ P[i]? = some (.num k) := by
  unfold tokOf
  cases h : P[i]? with
  | none => by_cases e : i = P.length <;> simp [e]
  | some x => cases x <;> simp
theorem tok_fin {i : Nat} : tokOf P i = some .fin ↔ i = P.length := by
  unfold tokOf
  cases h : P[i]? with
  | none => by_cases e : i = P.length <;> simp [e]
  | some x =>
    have := (List.getElem?_eq_some_iff.mp h).1
    cases x <;> simp <;> omega
theorem Run.mono {n : Nat} {s r : PSt} {tok : Nat → Option Tk} (h : Run tok O n s r) : s.pl ≤ r.pl := by
  induction h with
  | fin => exact Nat.le_refl _
  | red _ _ ih => exact ih
  | shift _ _ _ _ _ _ ih => exact Nat.le_trans (by simp) ih
  | post _ _ _ _ _ ih => exact Nat.le_trans (by simp) ih
theorem not_blocked {s : PSt} {j : Nat} (h : P[s.pl]? = some (.op j)) (h1 : O.lev j ≤ s.lim) (h2 : s.pr ≤ O.lft j) : ¬ blocked (tokOf P) O s := by
  rintro (hb | ⟨j', hj, hb⟩)
  · rw [tok_fin] at hb
    have := (List.getElem?_eq_some_iff.mp h).1
    omega
  · rw [tok_op, h] at hj; cases hj; exact hb ⟨h1, h2⟩
theorem Run.full {n : Nat} {s r : PSt} (h : Run (tokOf P) O n s r) (hO : ∀ j, Pt.op j ∈ P → LvOk O j) : Srt s.ch → ∀ {e : Nat}, Acc O P s.ch s.pl e → e ≤ r.pl := by
  induction h with
  | @fin s hb hf =>
    intro hs e ha
    by_cases hne : e = s.pl
    · omega
    obtain ⟨A, p, l, r, j, e1, h1, h2, h3, -⟩ := ha.next hne
    unfold PSt.ch at e1
    rw [hf] at e1
    cases A with
    | nil => simp at e1; obtain ⟨⟨rfl, rfl⟩, _⟩ := e1; exact (not_blocked h1 h2 h3 hb).elim
    | cons a A => simp at e1
  | @red n pl lim term pr f fs r hb hR ih =>
    intro hs e ha
    cases ha with
    | done => have := Run.mono hR; exact this
    | red ha => exact ih hs.tail ha
    | inf h1 h2 h3 h4 h5 => exact (not_blocked (s := ⟨pl, lim, term, pr, f :: fs⟩) h1 h3 h4 hb).elim
    | post h1 h2 h3 h4 h5 => exact (not_blocked (s := ⟨pl, lim, term, pr, f :: fs⟩) h1 h3 h4 hb).elim
  | @shift n s j k r hj hi h1 h2 hk hR ih =>
    intro hs e ha
    have hP := tok_op.mp hj
    obtain ⟨v1, v2, v3⟩ := hO j (List.mem_of_getElem? hP)
    by_cases hne : e = s.pl
    · have := Run.mono hR; simp at this; omega
    have hs' : Srt (PSt.ch ⟨s.pl + 2, O.rgt j, .num k, 0, ⟨O.fn j, O.lev j, s.lim, some s.term⟩ :: s.fs⟩) := by
      refine .cons v3 v2 ?_
      unfold PSt.ch at hs
      cases hf : s.fs with
      | nil => exact .one h1
      | cons f fs =>
        rw [hf] at hs
        cases hs with
        | cons q1 q2 q3 => exact .cons h1 q2 q3
    refine ih hs' ?_
    obtain ⟨A, p, l, r', j', e1, g1, g2, g3, g4⟩ := ha.next hne
    rw [hP] at g1; cases g1
    rcases g4 with ⟨-, g4⟩ | ⟨g4, -⟩
    · refine g4.mono (.cons_cons _ ?_)
      unfold PSt.ch at e1
      cases A with
      | nil =>
        simp only [List.nil_append, List.cons.injEq, Prod.mk.injEq] at e1
        obtain ⟨⟨rfl, rfl⟩, rfl⟩ := e1
        exact .refl _
      | cons a A =>
        simp only [List.cons_append, List.cons.injEq] at e1
        obtain ⟨rfl, e1⟩ := e1
        have hm : (p, l) ∈ s.fs.map fun f => (f.lv, f.lim) := by rw [e1]; simp
        have := hs.mem _ hm
        have hp : O.lev j = p := by simp only at this; omega
        rw [hp]
        show List.Sublist _ ((p, s.lim) :: s.fs.map fun f => (f.lv, f.lim))
        rw [e1]
        exact .cons _ (List.sublist_append_right _ _)
    · rw [hi] at g4; cases g4
  | @post n s j r hj hi h1 h2 hR ih =>
    intro hs e ha
    have hP := tok_op.mp hj
    obtain ⟨v1, v2, v3⟩ := hO j (List.mem_of_getElem? hP)
    by_cases hne : e = s.pl
    · have := Run.mono hR; simp at this; omega
    have hs' : Srt (PSt.ch ⟨s.pl + 1, s.lim, .un (O.fn j) s.term, O.lev j, s.fs⟩) := by
      unfold PSt.ch at hs ⊢
      cases hf : s.fs with
      | nil => exact .one h1
      | cons f fs =>
        rw [hf] at hs
        cases hs with
        | cons q1 q2 q3 => exact .cons h1 q2 q3
    refine ih hs' ?_
    obtain ⟨A, p, l, r', j', e1, g1, g2, g3, g4⟩ := ha.next hne
    rw [hP] at g1; cases g1
    rcases g4 with ⟨g4, -⟩ | ⟨-, g4⟩
    · rw [hi] at g4; cases g4
    · refine g4.mono ?_
      unfold PSt.ch at e1
      cases A with
      | nil =>
        simp only [List.nil_append, List.cons.injEq, Prod.mk.injEq] at e1
        obtain ⟨⟨rfl, rfl⟩, rfl⟩ := e1
        exact .refl _
      | cons a A =>
        simp only [List.cons_append, List.cons.injEq] at e1
        obtain ⟨rfl, e1⟩ := e1
        have hm : (p, l) ∈ s.fs.map fun f => (f.lv, f.lim) := by rw [e1]; simp
        have := hs.mem _ hm
        have hp : O.lev j = p := by simp only at this; omega
        rw [hp]
        show List.Sublist _ ((p, s.lim) :: s.fs.map fun f => (f.lv, f.lim))
        rw [e1]
        exact .cons _ (List.sublist_append_right _ _)
/-! the run comes to an end -/
structure RowOk (O : OpE) (P : List Pt) : Prop where
  inf : ∀ i j, P[i]? = some (.op j) → O.inf j = true → ∃ k, P[i + 1]? = some (.num k)
  post : ∀ i j, P[i]? = some (.op j) → O.inf j = false → ∀ k, P[i + 1]? ≠ some (.num k)
  num : ∀ i k, P[i]? = some (.num k) → ∀ k', P[i + 1]? ≠ some (.num k')
theorem Run.ex (W : RowOk O P) : ∀ (N : Nat) (s : PSt), 2 * (P.length - s.pl) + s.fs.length ≤ N → s.pl ≤ P.length → (∀ k, P[s.pl]? ≠ some (.num k)) → ∃ n r, n ≤ N + 1 ∧ Run (tokOf P) O n s r
  | N, s, hN, hl, hn => by
    have hred : blocked (tokOf P) O s → ∃ n r, n ≤ N + 1 ∧ Run (tokOf P) O n s r := by
      intro hb
      obtain ⟨pl, lim, term, pr, fs⟩ := s
      cases fs with
      | nil => exact ⟨1, _, by omega, .fin hb rfl⟩
      | cons f fs =>
        cases N with
        | zero => simp at hN
        | succ N =>
          obtain ⟨n, r, hn', hR⟩ := Run.ex W N ⟨pl, f.lim, f.redu term, f.lv, fs⟩ (by simp at hN ⊢; omega) hl hn
          exact ⟨n + 1, r, by omega, .red hb hR⟩
    cases hx : P[s.pl]? with
    | none =>
      have : P.length ≤ s.pl := List.getElem?_eq_none_iff.mp hx
      exact hred (.inl (tok_fin.mpr (by omega)))
    | some x =>
      have hlt := (List.getElem?_eq_some_iff.mp hx).1
      cases x with
      | num k => exact absurd hx (hn k)
      | op j =>
        by_cases hadm : O.lev j ≤ s.lim ∧ s.pr ≤ O.lft j
        · cases hi : O.inf j with
          | true =>
            obtain ⟨k, hk⟩ := W.inf _ _ hx hi
            have hlt2 := (List.getElem?_eq_some_iff.mp hk).1
            obtain ⟨M, rfl⟩ : ∃ M, N = M + 2 := ⟨N - 2, by omega⟩
            obtain ⟨n, r, hn', hR⟩ := Run.ex W M ⟨s.pl + 2, O.rgt j, .num k, 0, ⟨O.fn j, O.lev j, s.lim, some s.term⟩ :: s.fs⟩ (by simp; omega) (by simp; omega) (fun k' => W.num _ _ hk k')
            exact ⟨n + 2, r, by omega, .shift (tok_op.mpr hx) hi hadm.1 hadm.2 (tok_int.mpr hk) hR⟩
          | false =>
            obtain ⟨M, rfl⟩ : ∃ M, N = M + 1 := ⟨N - 1, by omega⟩
            obtain ⟨n, r, hn', hR⟩ := Run.ex W M ⟨s.pl + 1, s.lim, .un (O.fn j) s.term, O.lev j, s.fs⟩ (by simp; omega) (by simp; omega) (fun k' => W.post _ _ hx hi k')
            exact ⟨n + 1, r, by omega, .post (tok_op.mpr hx) hi hadm.1 hadm.2 hR⟩
        · exact hred (.inr ⟨j, tok_op.mpr hx, hadm⟩)
end
open PySem PySem.W PySem.Calls PyProof.Rows PySem.SeqAt
noncomputable def Pt.av (O : OpE) : Pt → AV
  | .num k => .tup [.str "i", .int k]
  | .op j => .str (O.nm j)
noncomputable def Tab (O : OpE) (P : List Pt) (kvs : List (List Int × AV)) (W F : Nat) : Prop := ∀ a b : Nat,
  (a < b → b ≤ P.length → (b < a + W ∨ (b = a + W ∧ a < F)) → ∃ o : Option Int, aget kvs [(a : Int), (b : Int)] = o.map AV.int ∧ IsBest O P a b o) ∧
  (¬ (b < a + W ∨ (b = a + W ∧ a < F)) → aget kvs [(a : Int), (b : Int)] = none)
theorem Tab.get {O : OpE} {P : List Pt} {kvs : List (List Int × AV)} {W F a b : Nat} (t : Tab O P kvs W F) (h1 : a < b) (h2 : b ≤ P.length) (h3 : b < a + W ∨ (b = a + W ∧ a < F)) :
    ∃ v, (aget kvs [(a : Int), (b : Int)]).getD (.int 9999) = .int v ∧ ∀ x, x < 9999 → (v ≤ x ↔ ∃ p, Rd O P a b p ∧ p ≤ x) := by
  obtain ⟨o, e, hb⟩ := (t a b).1 h1 h2 h3
  cases o with
  | some p => exact ⟨p, by rw [e]; rfl, fun x _ => ⟨fun h => ⟨p, hb.1, h⟩, fun ⟨q, hq, h⟩ => Int.le_trans (hb.2 q hq) h⟩⟩
  | none => exact ⟨9999, by rw [e]; rfl, fun x hx => ⟨fun h => by omega, fun ⟨q, hq, h⟩ => (hb q hq).elim⟩⟩
theorem Tab.next {O : OpE} {P : List Pt} {kvs : List (List Int × AV)} {W F : Nat} (t : Tab O P kvs W F) (h : P.length < F + W) : Tab O P kvs (W + 1) 0 := fun a b =>
  ⟨fun h1 h2 h3 => (t a b).1 h1 h2 (by omega), fun h3 => (t a b).2 (by omega)⟩
theorem Tab.zero {O : OpE} {P : List Pt} : Tab O P [] 1 0 := fun a b => ⟨fun h1 h2 h3 => by omega, fun _ => rfl⟩
theorem aget_put {κ : Type} [DecidableEq κ] {kvs : List (κ × AV)} {k k' : κ} {v : AV} (h : aget kvs k = none) : aget (aput kvs k v) k' = if k' = k then some v else aget kvs k' := by
  have hk : k ∉ kvs.map (·.1) := by
    intro q
    obtain ⟨x, hx, e⟩ := List.mem_map.mp q
    unfold aget at h
    rw [Option.map_eq_none_iff, List.find?_eq_none] at h
    exact h x hx (by simp [e])
  rw [aput_new hk]
  unfold aget
  rw [List.find?_append]
  by_cases e : k' = k
  · subst e
    have : List.find? (fun kv => decide (kv.1 = k')) kvs = none := by
      rw [List.find?_eq_none]; intro x hx q; exact hk (by have : x.1 = k' := by simpa using q
                                                          rw [← this]; exact List.mem_map_of_mem hx)
    rw [this]; simp
  · simp [e, Ne.symm e]
theorem nat_pair {a b c d : Nat} (h : ([(a : Int), (b : Int)] : List Int) = [(c : Int), (d : Int)]) : a = c ∧ b = d := by
  simp at h; exact ⟨by omega, by omega⟩
theorem Tab.put {O : OpE} {P : List Pt} {kvs : List (List Int × AV)} {W F : Nat} {p : Int} (t : Tab O P kvs W F) (h : IsBest O P F (F + W) (some p)) : Tab O P (aput kvs [(F : Int), ((F + W : Nat) : Int)] (.int p)) W (F + 1) := fun a b => by
  rw [aget_put ((t F (F + W)).2 (by omega))]
  by_cases e : ([(a : Int), (b : Int)] : List Int) = [(F : Int), ((F + W : Nat) : Int)]
  · obtain ⟨rfl, rfl⟩ := nat_pair e
    rw [if_pos rfl]
    exact ⟨fun _ _ _ => ⟨some p, rfl, h⟩, fun q => by omega⟩
  · rw [if_neg e]
    have hne : ¬ (a = F ∧ b = F + W) := fun ⟨h1, h2⟩ => e (by rw [h1, h2])
    exact ⟨fun h1 h2 h3 => (t a b).1 h1 h2 (by omega), fun q => (t a b).2 (by omega)⟩
theorem Tab.skip {O : OpE} {P : List Pt} {kvs : List (List Int × AV)} {W F : Nat} (t : Tab O P kvs W F) (h : IsBest O P F (F + W) none) : Tab O P kvs W (F + 1) := fun a b => by
  by_cases e : a = F ∧ b = F + W
  · obtain ⟨rfl, rfl⟩ := e
    exact ⟨fun _ _ _ => ⟨none, (t a (a + W)).2 (by omega), h⟩, fun q => by omega⟩
  · exact ⟨fun h1 h2 h3 => (t a b).1 h1 h2 (by omega), fun q => (t a b).2 (by omega)⟩
theorem Tab.len {kvs : List (List Int × AV)} {k : List Int} {v : AV} (h : aget kvs k = none) : (aput kvs k v).length = kvs.length + 1 := by
  have hk : k ∉ kvs.map (·.1) := by
    intro q
    obtain ⟨x, hx, e⟩ := List.mem_map.mp q
    unfold aget at h
    rw [Option.map_eq_none_iff, List.find?_eq_none] at h
    exact h x hx (by simp [e])
  rw [aput_new hk]; simp
structure LOk (O : OpE) (P : List Pt) (en : List (Str × AV)) (j : Nat) : Prop where
  en : aget en (O.nm j) = some (.tup [.int (O.lev j), .int (O.lft j), .int (O.rgt j)])
  lft : O.lft j < 9999
  rgt : O.rgt j < 9999
  pq : ([AV.str "p", .str "q"].any fun y => y.eqv (.str (O.nm j))) = !O.inf j
  uvw : ([AV.str "u", .str "v", .str "w"].any fun y => y.eqv (.str (O.nm j))) = O.inf j
theorem c_least {G : Gl} (I : IsG G) {P : List Pt} {O : OpE} {pa ea : Addr} {en : List (Str × AV)} {σ : Hp} {Q : AV → Hp → Prop} (hP : P.length ≤ 100) (hO : ∀ j, Pt.op j ∈ P → LOk O P en j) (hpa : (pa, .list (P.map (Pt.av O))) ∈ σ) (hea : (ea, .dS en) ∈ σ)
  (q : ∀ z kvs, Tab O P kvs (P.length + 1) 0 → Q (.ref z) ((z, .dT kvs) :: σ)) : CallOk G 5 (.ref 542) [.ref pa, .ref ea] σ Q := by
  refine CallOk.go'' (n := 4) (ps := ["parts", "entries"]) (ls' := ["least", "width", "first", "last", "found", "level", "left", "right", "middle"]) (gs := ["range", "len", "min"]) (FnIn.lit (by rw [I.k]; walk_at "FN") (by conv => lhs; whnf)) I.g rfl ?_
  rintro X rfl hn ⟨l0, l1, l2, l3, l4, l5, l6, l7, l8, l9, l10, -⟩ ⟨g0, g1, g2, -⟩
  have q_range := I.fs.gl.b_range
  have q_len := I.fs.gl.b_len
  have q_min := I.fs.gl.b_min
  dsimp only [padL, List.map, List.cons_append, List.nil_append, List.length_cons, List.length_nil, List.replicate, Nat.zero_add]
  walk_at "W"
  refine Ev.dictT fun ls => ?_
  walk_at "W"
  refine Xs.forRange (by walk_at "L") (fun _ => rfl) ?_
  walk_at "W"
  refine Cl.len (by walk_at "M") (by simp; omega) ?_
  rw [List.length_map]
  walk_at "W"
  refine Cl.range2 fun rg => ?_
  refine ⟨rg, _, _, _, rfl, rfl, by omega, by omega, by omega, by omega, fun i m σ' => ∃ kvs w f la fo lv le ri mi, m = [some (.ref pa), some (.ref ea), some (.ref ls), w, f, la, fo, lv, le, ri, mi] ∧ σ' = (ls, .dT kvs) :: σ ∧ Tab O P kvs (i + 1) 0 ∧ kvs.length ≤ i * 101, ⟨[], _, _, _, _, _, _, _, _, rfl, rfl, .zero, by simp⟩, ?_, ?_⟩
  · rintro i m σ' hi ⟨kvs, w, f, la, fo, lv, le, ri, mi, rfl, rfl, ht, hlen⟩
    have hi' : i < P.length := by omega
    refine ⟨_, .there (.there (.there .here)), ?_⟩
    rw [show (1 : Int) + (i : Int) = ((i + 1 : Nat) : Int) from by omega]
    obtain ⟨W, hW⟩ : ∃ W, W = i + 1 := ⟨_, rfl⟩
    rw [← hW]
    rw [← hW] at ht
    walk_at "W"
    refine Xs.forRange (by walk_at "L") (fun _ => rfl) ?_
    walk_at "W"
    refine Cl.len (by walk_at "M") (by simp; omega) ?_
    rw [List.length_map]
    walk_at "W"
    refine Cl.range2 fun rg2 => ?_
    refine ⟨rg2, _, _, _, rfl, rfl, by omega, by omega, by omega, by omega, fun F m σ' => ∃ kvs f la fo lv le ri mi, m = [some (.ref pa), some (.ref ea), some (.ref ls), some (.int W), f, la, fo, lv, le, ri, mi] ∧ σ' = (ls, .dT kvs) :: σ ∧ Tab O P kvs W F ∧ kvs.length ≤ i * 101 + F, ⟨kvs, _, _, _, _, _, _, _, rfl, rfl, ht, hlen⟩, ?_, ?_⟩
    · clear ht hlen kvs
      rintro F m σ' hF ⟨kvs, f, la, fo, lv, le, ri, mi, rfl, rfl, ht, hlen⟩
      have hF' : F + W ≤ P.length := by omega
      refine ⟨_, .there (.there (.there (.there .here))), ?_⟩
      rw [show (0 : Int) + (F : Int) = (F : Int) from by omega]
      refine Xs.weak ?_
      obtain ⟨x, hx⟩ : ∃ x, P[F]? = some x := ⟨_, List.getElem?_eq_getElem (by omega)⟩
      walk_at "W"
      refine Op2.itList rfl (by walk_at "M") (by omega) (by omega) (by rw [Int.toNat_natCast, List.getElem?_map, hx]; rfl) ?_
      walk_at "W"
      cases x with
      | op j =>
        have hj := hO j (List.mem_of_getElem? hx)
        refine Op2.inDS (by omega) (by walk_at "M") (b := true) (by rw [hj.en]; rfl) ?_
        walk_at "W"
        refine ifX_t rfl ?_
        walk_at "W"
        exact ⟨_, .refl _, kvs, _, _, _, _, _, _, _, rfl, rfl, ht.skip (fun q hq => by obtain ⟨k, hk⟩ := hq.first; rw [hx] at hk; cases hk), by omega⟩
      | num k =>
        refine Op2.tupInDictS (by omega) (by walk_at "M") ?_
        walk_at "W"
        refine ifX_f rfl ?_
        walk_at "W"
        intro fd _
        iterate 2 walk_at "S"
        rw [show (F : Int) + (W : Int) = ((F + W : Nat) : Int) from by omega]
        refine Xs.cons (Xs.mono (Q := fun f m' σ' => f = .next ∧ m' = [some (.ref pa), some (.ref ea), some (.ref ls), some (.int W), some (.int F), some (.int ((F + W : Nat) : Int)), some (.ref fd), lv, le, ri, mi] ∧ ∃ fs : List Int, σ' = (fd, .list (fs.map .int)) :: (ls, .dT kvs) :: σ ∧ fs.length ≤ 1 ∧ ∀ x, x ∈ fs ↔ (F + W = F + 1 ∧ x = 0)) ?_ ?_)
        · walk_at "W"
          refine ifX_c (fun h => ?_) (fun h => ?_)
          · have h : (W : Int) = 1 := by simpa using h
            walk_at "W"
            refine Cl.append (by walk_at "U") (by simp) ?_
            walk_at "W"
            exact ⟨rfl, rfl, [0], rfl, by simp, fun x => by simp; omega⟩
          · have h : ¬ (W : Int) = 1 := by simpa using h
            walk_at "W"
            exact ⟨rfl, rfl, [], rfl, by simp, fun x => by simp; omega⟩
        rintro f m' σ' ⟨rfl, rfl, fs, rfl, hfs, hx1⟩
        walk_at "S"
        refine Xs.cons (Xs.mono (Q := fun f m' σ' => f = .next ∧ ∃ lv le ri, m' = [some (.ref pa), some (.ref ea), some (.ref ls), some (.int W), some (.int F), some (.int ((F + W : Nat) : Int)), some (.ref fd), lv, le, ri, mi] ∧ ∃ fs : List Int, σ' = (fd, .list (fs.map .int)) :: (ls, .dT kvs) :: σ ∧ fs.length ≤ 2 ∧ ∀ x, x ∈ fs ↔ Fnd O P F (F + W) (F + 1) x) ?_ ?_)
        · obtain ⟨y, hy⟩ : ∃ y, P[F + W - 1]? = some y := ⟨_, List.getElem?_eq_getElem (by omega)⟩
          have ey : ((F + W : Nat) : Int) - 1 = ((F + W - 1 : Nat) : Int) := by omega
          walk_at "W"
          rw [ey]
          refine Op2.itList rfl (by walk_at "M") (by omega) (by omega) (by rw [Int.toNat_natCast, List.getElem?_map, hy]; rfl) ?_
          walk_at "W"
          have none_op : (∀ j, y = .op j → O.inf j = true) → ∀ x, x ∈ fs ↔ Fnd O P F (F + W) (F + 1) x := by
            intro hno x
            rw [hx1]
            constructor
            · rintro ⟨h1, rfl⟩; exact .num hx h1
            · intro h
              cases h with
              | num h1 h2 => exact ⟨h2, rfl⟩
              | post h1 h2 h3 h4 h5 =>
                rename_i c j p
                have : c = F + W - 1 := by omega
                rw [this, hy] at h3; cases h3
                rw [hno j rfl] at h4; cases h4
              | bin h0 h1 => have := h1.lt; omega
          cases y with
          | num k' =>
            refine Op2.inT (n := 1) (n' := 2) (b := false) rfl rfl (by omega) (by simp only [Pt.av, AV.eqv, List.any_cons, List.any_nil, Bool.or_false]) ?_
            walk_at "W"
            refine ifX_f rfl ?_
            walk_at "W"
            exact ⟨rfl, _, _, _, rfl, fs, rfl, by omega, none_op fun j h => by cases h⟩
          | op j =>
            have hj := hO j (List.mem_of_getElem? hy)
            refine Op2.inT (n := 1) (n' := 0) (b := !O.inf j) rfl rfl (by omega) hj.pq ?_
            walk_at "W"
            cases hinf : O.inf j with
            | true =>
              refine ifX_f rfl ?_
              walk_at "W"
              exact ⟨rfl, _, _, _, rfl, fs, rfl, by omega, none_op fun j' h => by cases h; exact hinf⟩
            | false =>
              have hW2 : 2 ≤ W := by
                rcases Nat.lt_or_ge W 2 with h | h
                · have : F + W - 1 = F := by omega
                  rw [this, hx] at hy; cases hy
                · exact h
              refine ifX_t rfl ?_
              walk_at "W"
              rw [ey]
              refine Op2.itList rfl (by walk_at "M") (by omega) (by omega) (by rw [Int.toNat_natCast, List.getElem?_map, hy]; rfl) ?_
              walk_at "W"
              refine Op2.itDS rfl (by omega) (by walk_at "M") hj.en ?_
              walk_at "W"
              rw [ey]
              obtain ⟨v, hv1, hv2⟩ := ht.get (a := F) (b := F + W - 1) (by omega) (by omega) (by omega)
              rw [hv1]
              walk_at "W"
              have hv := hv2 (O.lft j) hj.lft
              refine ifX_c (fun h => ?_) (fun h => ?_)
              · obtain ⟨p, hp1, hp2⟩ := hv.mp (by simpa using h)
                walk_at "W"
                refine Cl.append (by walk_at "U") (by simp; omega) ?_
                walk_at "W"
                refine ⟨rfl, _, _, _, rfl, fs ++ [O.lev j], by simp, by simp; omega, fun x => ?_⟩
                rw [List.mem_append, hx1]
                constructor
                · rintro (⟨h1, rfl⟩ | h1)
                  · exact .num hx h1
                  · obtain rfl : x = O.lev j := by simpa using h1
                    exact .post (c := F + W - 1) (by omega) hp1 hy hinf hp2
                · intro h
                  cases h with
                  | num h1 h2 => exact .inl ⟨h2, rfl⟩
                  | post h1 h2 h3 h4 h5 =>
                    rename_i c j' p
                    have : c = F + W - 1 := by omega
                    rw [this, hy] at h3; cases h3
                    exact .inr (by simp)
                  | bin h0 h1 => have := h1.lt; omega
              · have hno : ¬ ∃ p, Rd O P F (F + W - 1) p ∧ p ≤ O.lft j := fun h' => by
                  have := hv.mpr h'
                  simp at h; omega
                walk_at "W"
                refine ⟨rfl, _, _, _, rfl, fs, rfl, by omega, fun x => ?_⟩
                rw [hx1]
                constructor
                · rintro ⟨h1, rfl⟩; exact .num hx h1
                · intro h
                  cases h with
                  | num h1 h2 => exact ⟨h2, rfl⟩
                  | post h1 h2 h3 h4 h5 =>
                    rename_i c j' p
                    have : c = F + W - 1 := by omega
                    subst this
                    rw [hy] at h3; cases h3
                    exact (hno ⟨_, h2, h5⟩).elim
                  | bin h0 h1 => have := h1.lt; omega
        clear hx1 hfs fs lv le ri
        rintro f m' σ' ⟨rfl, lv, le, ri, rfl, fs, rfl, hfs, hx1⟩
        walk_at "S"
        refine Xs.cons (Xs.mono (Q := fun f m' σ' => f = .next ∧ ∃ lv le ri mi, m' = [some (.ref pa), some (.ref ea), some (.ref ls), some (.int W), some (.int F), some (.int ((F + W : Nat) : Int)), some (.ref fd), lv, le, ri, mi] ∧ ∃ fs : List Int, σ' = (fd, .list (fs.map .int)) :: (ls, .dT kvs) :: σ ∧ ∀ x, x ∈ fs ↔ Rd O P F (F + W) x) ?_ ?_)
        · refine Xs.forRange (by walk_at "L") (fun _ => rfl) ?_
          walk_at "W"
          refine Cl.range2 fun rg3 => ?_
          refine ⟨rg3, _, _, _, rfl, rfl, by omega, by omega, by omega, by omega, fun i m σ' => ∃ lv le ri mi, m = [some (.ref pa), some (.ref ea), some (.ref ls), some (.int W), some (.int F), some (.int ((F + W : Nat) : Int)), some (.ref fd), lv, le, ri, mi] ∧ ∃ fs : List Int, σ' = (fd, .list (fs.map .int)) :: (ls, .dT kvs) :: σ ∧ fs.length ≤ 2 + i ∧ ∀ x, x ∈ fs ↔ Fnd O P F (F + W) (F + 1 + i) x, ⟨_, _, _, _, rfl, fs, rfl, by omega, hx1⟩, ?_, ?_⟩
          · clear hx1 hfs fs lv le ri mi
            rintro i' m σ' hi ⟨lv, le, ri, mi, rfl, fs, rfl, hfs, hx1⟩
            refine ⟨_, by walk_at "SA", ?_⟩
            obtain ⟨M, hM⟩ : ∃ M, M = F + 1 + i' := ⟨_, rfl⟩
            rw [show (F : Int) + 1 + (i' : Int) = (M : Int) from by omega]
            obtain ⟨y, hy⟩ : ∃ y, P[M]? = some y := ⟨_, List.getElem?_eq_getElem (by omega)⟩
            rw [← hM] at hx1
            walk_at "W"
            refine Op2.itList rfl (by walk_at "M") (by omega) (by omega) (by rw [Int.toNat_natCast, List.getElem?_map, hy]; rfl) ?_
            walk_at "W"
            have none_op : (∀ j p q, y = .op j → O.inf j = true → Rd O P F M p → p ≤ O.lft j → Rd O P (M + 1) (F + W) q → q ≤ O.rgt j → False) → ∀ x, x ∈ fs ↔ Fnd O P F (F + W) (F + 1 + (i' + 1)) x := by
              intro hno x
              rw [hx1, show F + 1 + (i' + 1) = M + 1 from by omega]
              constructor
              · intro h
                cases h with
                | num h1 h2 => exact .num h1 h2
                | post h1 h2 h3 h4 h5 => exact .post h1 h2 h3 h4 h5
                | bin h0 h1 h2 h3 h4 h5 h6 => exact .bin (by omega) h1 h2 h3 h4 h5 h6
              · intro h
                cases h with
                | num h1 h2 => exact .num h1 h2
                | post h1 h2 h3 h4 h5 => exact .post h1 h2 h3 h4 h5
                | bin h0 h1 h2 h3 h4 h5 h6 =>
                  rename_i m j p q
                  rcases Nat.lt_or_ge m M with h | h
                  · exact .bin h h1 h2 h3 h4 h5 h6
                  · have : m = M := by omega
                    subst this
                    rw [hy] at h2; cases h2
                    exact (hno _ _ _ rfl h3 h1 h4 h5 h6).elim
            cases y with
            | num k' =>
              refine Op2.inT (n := 1) (n' := 2) (b := false) rfl rfl (by omega) (by simp only [Pt.av, AV.eqv, List.any_cons, List.any_nil, Bool.or_false]) ?_
              walk_at "W"
              refine ifX_f rfl ?_
              walk_at "W"
              exact ⟨_, _, _, _, rfl, fs, rfl, by omega, none_op fun j p q h => by cases h⟩
            | op j =>
              have hj := hO j (List.mem_of_getElem? hy)
              refine Op2.inT (n := 1) (n' := 0) (b := O.inf j) rfl rfl (by omega) hj.uvw ?_
              walk_at "W"
              cases hinf : O.inf j with
              | false =>
                refine ifX_f rfl ?_
                walk_at "W"
                exact ⟨_, _, _, _, rfl, fs, rfl, by omega, none_op fun j' p q h h' => by cases h; rw [hinf] at h'; cases h'⟩
              | true =>
                refine ifX_t rfl ?_
                walk_at "W"
                refine Op2.itList rfl (by walk_at "M") (by omega) (by omega) (by rw [Int.toNat_natCast, List.getElem?_map, hy]; rfl) ?_
                walk_at "W"
                refine Op2.itDS rfl (by omega) (by walk_at "M") hj.en ?_
                walk_at "W"
                obtain ⟨v, hv1, hv2⟩ := ht.get (a := F) (b := M) (by omega) (by omega) (by omega)
                rw [hv1]
                walk_at "W"
                have hv := hv2 (O.lft j) hj.lft
                by_cases hle : v ≤ O.lft j
                · rw [decide_eq_true hle]
                  refine andX_t rfl ?_
                  walk_at "W"
                  rw [show (M : Int) + 1 = ((M + 1 : Nat) : Int) from by omega]
                  obtain ⟨v', hv1', hv2'⟩ := ht.get (a := M + 1) (b := F + W) (by omega) (by omega) (by omega)
                  rw [hv1']
                  walk_at "W"
                  have hv' := hv2' (O.rgt j) hj.rgt
                  by_cases hle' : v' ≤ O.rgt j
                  · rw [decide_eq_true hle']
                    refine andX_t rfl ?_
                    walk_at "W"
                    refine ifX_t rfl ?_
                    obtain ⟨p, hp1, hp2⟩ := hv.mp hle
                    obtain ⟨p', hp1', hp2'⟩ := hv'.mp hle'
                    walk_at "W"
                    refine Cl.append (by walk_at "U") (by simp; omega) ?_
                    walk_at "W"
                    refine ⟨_, _, _, _, rfl, fs ++ [O.lev j], by simp, by simp; omega, fun x => ?_⟩
                    rw [List.mem_append, hx1, show F + 1 + (i' + 1) = M + 1 from by omega]
                    constructor
                    · rintro (h | h)
                      · cases h with
                        | num h1 h2 => exact .num h1 h2
                        | post h1 h2 h3 h4 h5 => exact .post h1 h2 h3 h4 h5
                        | bin h0 h1 h2 h3 h4 h5 h6 => exact .bin (by omega) h1 h2 h3 h4 h5 h6
                      · obtain rfl : x = O.lev j := by simpa using h
                        exact .bin (by omega) hp1 hy hinf hp2 hp1' hp2'
                    · intro h
                      cases h with
                      | num h1 h2 => exact .inl (.num h1 h2)
                      | post h1 h2 h3 h4 h5 => exact .inl (.post h1 h2 h3 h4 h5)
                      | bin h0 h1 h2 h3 h4 h5 h6 =>
                        rename_i m j p q
                        rcases Nat.lt_or_ge m M with h | h
                        · exact .inl (.bin h h1 h2 h3 h4 h5 h6)
                        · have : m = M := by omega
                          subst this
                          rw [hy] at h2; cases h2
                          exact .inr (by simp)
                  · rw [decide_eq_false hle']
                    refine andX_f rfl ?_
                    refine ifX_f rfl ?_
                    walk_at "W"
                    exact ⟨_, _, _, _, rfl, fs, rfl, by omega, none_op fun j' p q h h' h1 h2 h3 h4 => by cases h; exact hle' (hv'.mpr ⟨_, h3, h4⟩)⟩
                · rw [decide_eq_false hle]
                  refine andX_f rfl ?_
                  refine ifX_f rfl ?_
                  walk_at "W"
                  exact ⟨_, _, _, _, rfl, fs, rfl, by omega, none_op fun j' p q h h' h1 h2 h3 h4 => by cases h; exact hle (hv.mpr ⟨_, h1, h2⟩)⟩
          · rintro m σ' ⟨lv, le, ri, mi, rfl, fs, rfl, hfs, hx1⟩
            exact ⟨rfl, _, _, _, _, rfl, fs, rfl, fun x => (hx1 x).trans (fnd_iff (by omega))⟩
        clear hx1 hfs fs lv le ri mi
        rintro f m' σ' ⟨rfl, lv, le, ri, mi, rfl, fs, rfl, hx1⟩
        have hpl : ∀ l : List Int, pls 1 (l.map AV.int) = true := by
          intro l; induction l with
          | nil => rfl
          | cons a l ih => simp only [List.map_cons, pls, ih, Bool.and_true]; rfl
        walk_at "W"
        intro fz _
        walk_at "W"
        refine Op2.neL (n := 1) (k := 1) (by walk_at "M") (by walk_at "M") (hpl fs) rfl (by omega) ?_
        walk_at "W"
        cases fs with
        | nil =>
          refine ifX_f rfl ?_
          walk_at "W"
          exact ⟨_, .cut (.cut (.refl _)), kvs, _, _, _, _, _, _, _, rfl, rfl, ht.skip (fun q hq => by have := (hx1 q).mpr hq; simp at this), by omega⟩
        | cons a fs =>
          refine ifX_t rfl ?_
          walk_at "S"
          refine Xs.setItemT rfl ?_
          walk_at "W"
          refine Cl.min (ns := a :: fs) (by walk_at "M") (by simp) fun mn hm1 hm2 => ?_
          walk_at "W"
          refine ⟨_, _, [(F : Int), ((F + W : Nat) : Int)], _, rfl, rfl, .there (.there .here), by omega, by omega, ?_⟩
          walk_at "W"
          have hb : IsBest O P F (F + W) (some mn) := ⟨(hx1 mn).mp hm1, fun q hq => hm2 q ((hx1 q).mpr hq)⟩
          exact ⟨_, .cut (.cut (.refl _)), _, _, _, _, _, _, _, _, rfl, rfl, ht.put hb, by rw [Tab.len ((ht F (F + W)).2 (by omega))]; omega⟩
    · rintro m σ' ⟨kvs, f, la, fo, lv, le, ri, mi, rfl, rfl, ht, hlen⟩
      walk_at "W"
      refine ⟨kvs, _, _, _, _, _, _, _, _, rfl, rfl, ?_, ?_⟩
      · rw [← hW]; exact ht.next (by omega)
      · omega
  · rintro m σ' ⟨kvs, w, f, la, fo, lv, le, ri, mi, rfl, rfl, ht, hlen⟩
    walk_at "W"
    refine q ls kvs ?_
    rwa [show ((P.length : Int) + 1 - 1).toNat = P.length from by omega] at ht
open PySem
section
variable {O : OpE} {P : List Pt} {U : UE} {most : Int}
structure UMatch (O : OpE) (U : UE) (j : Nat) : Prop where
  nm : U.nm (O.fn j) = O.nm j
  lev : U.lev (O.fn j) = O.lev j
  lft : U.lft (O.fn j) = O.lft j
  rgt : O.inf j = true → U.rgt (O.fn j) = O.rgt j
noncomputable def VOp (O : OpE) (P : List Pt) (f : Int) : Prop := ∃ j, f = O.fn j ∧ Pt.op j ∈ P
inductive FrOk (O : OpE) (P : List Pt) (U : UE) (most : Int) : List Fm → Int → List AV → Nat → Prop
  | nil : FrOk O P U most [] most [] 0
  | cons {fs : List Fm} {lim : Int} {pre : List AV} {a m j : Nat} {l : Tr} : FrOk O P U most fs lim pre a → P[m]? = some (.op j) → O.inf j = true → O.lev j ≤ lim → Rd O P a m (l.prio U) → l.prio U ≤ O.lft j → l.all (VOp O P) →
      FrOk O P U most (⟨O.fn j, O.lev j, lim, some l⟩ :: fs) (O.rgt j) (pre ++ l.flat U ++ [.str (O.nm j)]) (m + 1)
noncomputable def Good (O : OpE) (P : List Pt) (U : UE) (most : Int) (s : PSt) : Prop := ∃ pre a, FrOk O P U most s.fs s.lim pre a ∧ pre ++ s.term.flat U = (P.take s.pl).map (Pt.av O) ∧ Rd O P a s.pl s.pr ∧ s.term.prio U = s.pr ∧ s.pr ≤ s.lim ∧ s.term.all (VOp O P)
theorem Run.good (hL : ∀ j, Pt.op j ∈ P → LvOk O j) (hU : ∀ j, Pt.op j ∈ P → UMatch O U j) {n : Nat} {s r : PSt} (h : Run (tokOf P) O n s r) : Good O P U most s → Good O P U most r ∧ r.fs = [] := by
  induction h with
  | fin hb hf => exact fun g => ⟨g, hf⟩
  | @red n pl lim term pr f fs r hb hR ih =>
    rintro ⟨pre, a, hF, hfl, hrd, hpr, hlim, hall⟩
    refine ih ?_
    cases hF with
    | @cons _ lim' pre' a' m j l g1 g2 g3 g4 g5 g6 g7 =>
      have u := hU j (List.mem_of_getElem? g2)
      simp only at hfl hrd hpr hlim hall
      refine ⟨pre', a', g1, ?_, .bin g5 g2 g3 g6 hrd hlim, ?_, g4, ?_⟩
      · show pre' ++ (l.flat U ++ [.str (U.nm (O.fn j))] ++ term.flat U) = _
        rw [u.nm, ← hfl]; simp
      · show (if l.prio U ≤ U.lft (O.fn j) ∧ term.prio U ≤ U.rgt (O.fn j) then U.lev (O.fn j) else 9999) = O.lev j
        rw [u.lft, u.rgt g3, u.lev, hpr, if_pos ⟨g6, hlim⟩]
      · exact ⟨⟨j, rfl, List.mem_of_getElem? g2⟩, g7, hall⟩
  | @shift n s j k r hj hi h1 h2 hk hR ih =>
    rintro ⟨pre, a, hF, hfl, hrd, hpr, hlim, hall⟩
    refine ih ?_
    rw [tok_op] at hj
    rw [tok_int] at hk
    have v := hL j (List.mem_of_getElem? hj)
    refine ⟨_, _, .cons hF hj hi h1 (hpr ▸ hrd) (hpr ▸ h2) hall, ?_, .num hk, rfl, v.r0, trivial⟩
    show pre ++ s.term.flat U ++ [.str (O.nm j)] ++ [.tup [.str "i", .int k]] = (P.take (s.pl + 2)).map (Pt.av O)
    rw [hfl, show s.pl + 2 = s.pl + 1 + 1 from rfl, take_succ_eq hk, take_succ_eq hj]
    simp [Pt.av]
  | @post n s j r hj hi h1 h2 hR ih =>
    rintro ⟨pre, a, hF, hfl, hrd, hpr, hlim, hall⟩
    refine ih ?_
    rw [tok_op] at hj
    have u := hU j (List.mem_of_getElem? hj)
    refine ⟨pre, a, hF, ?_, .post hrd hj hi h2, ?_, h1, ⟨⟨j, rfl, List.mem_of_getElem? hj⟩, hall⟩⟩
    · show pre ++ (s.term.flat U ++ [.str (U.nm (O.fn j))]) = (P.take (s.pl + 1)).map (Pt.av O)
      rw [take_succ_eq hj, u.nm, ← List.append_assoc, hfl]
      simp [Pt.av]
    · show (if s.term.prio U ≤ U.lft (O.fn j) then U.lev (O.fn j) else 9999) = O.lev j
      rw [u.lft, u.lev, hpr, if_pos h2]
theorem Tr.h_sz : ∀ t : Tr, t.h ≤ t.sz + 2
  | .num _ => by simp [Tr.h, Tr.sz]
  | .un _ x => by have := x.h_sz; simp only [Tr.h, Tr.sz]; omega
  | .bin _ l r => by have := l.h_sz; have := r.h_sz; simp only [Tr.h, Tr.sz]; omega
/-- the parser reads the longest row that has a reading within the bound -/
theorem plain1 (W : RowOk O P) (hL : ∀ j, Pt.op j ∈ P → LvOk O j) (hU : ∀ j, Pt.op j ∈ P → UMatch O U j) {k0 : Int} (h0 : P[0]? = some (.num k0)) (hm : 0 ≤ most) :
    ∃ n r, n ≤ 2 * P.length + 1 ∧ Run (tokOf P) O n ⟨1, most, .num k0, 0, []⟩ r ∧ r.fs = [] ∧ r.term.flat U = (P.take r.pl).map (Pt.av O) ∧ r.term.prio U = r.pr ∧ r.pr ≤ most ∧ r.term.all (VOp O P) ∧ 1 ≤ r.pl ∧ r.pl ≤ P.length ∧
      Rd O P 0 r.pl r.pr ∧ ∀ e p, Rd O P 0 e p → p ≤ most → e ≤ r.pl := by
  have hlen : 1 ≤ P.length := (List.getElem?_eq_some_iff.mp h0).1
  obtain ⟨n, r, hn, hR⟩ := Run.ex W (2 * (P.length - 1)) ⟨1, most, .num k0, 0, []⟩ (by simp) hlen (fun k => W.num _ _ h0 k)
  have g : Good O P U most ⟨1, most, .num k0, 0, []⟩ := ⟨[], 0, .nil, by
    show [AV.tup [.str "i", .int k0]] = _
    rw [show P.take 1 = P.take 0 ++ [.num k0] from take_succ_eq h0]; simp [Pt.av], .num h0, rfl, hm, trivial⟩
  obtain ⟨⟨pre, a, hF, hfl, hrd, hpr, hlim, hall⟩, hfs⟩ := hR.good hL hU g
  rw [hfs] at hF
  obtain ⟨rfl, rfl, e3⟩ : pre = [] ∧ a = 0 ∧ r.lim = most := by
    generalize r.lim = x at hF
    cases hF; exact ⟨rfl, rfl, rfl⟩
  rw [e3] at hlim
  refine ⟨n, r, by omega, hR, hfs, by simpa using hfl, hpr, hlim, hall, Run.mono hR, hrd.le, hrd, fun e p he hp => ?_⟩
  exact hR.full hL (.one hm) (Acc.of_rd he hL hp .done)
end
open PySem PySem.W PySem.Calls PyProof.Rows PySem.SeqAt
theorem mulOk {a b : Int} (h0 : 0 ≤ b) (h1 : b < 100000) : IntMulOk a b := .of_right (intBits_le_64 (by omega) (by omega))
noncomputable def gf (fg : List Int) (i : Nat) : Int := fg.getD i 0
noncomputable def baseF (fg : List Int) : Int := gf fg 0 * 96 + gf fg 1
noncomputable def levF (fg : List Int) (j : Nat) : Int := 1 + Int.fmod (baseF fg + gf fg 2 * Int.fmod (gf fg (4 + j)) 5) 1200
noncomputable def in3 : Nat → Str
  | 0 => "yfx"
  | 1 => "xfy"
  | _ => "xfx"
noncomputable def po2 : Nat → Str
  | 0 => "yf"
  | _ => "xf"
noncomputable def k3F (fg : List Int) (j : Nat) : Nat := (Int.fmod (Int.fdiv (gf fg (4 + j)) 5) 3).toNat
noncomputable def k2F (fg : List Int) (j : Nat) : Nat := (Int.fmod (Int.fdiv (gf fg (4 + j)) 5) 2).toNat
noncomputable def fixF' (fg : List Int) (j : Nat) : Str := if j < 3 then in3 (k3F fg j) else po2 (k2F fg j)
noncomputable def cpF (j : Nat) : Nat := match j with
  | 0 => 117
  | 1 => 118
  | 2 => 119
  | 3 => 112
  | _ => 113
noncomputable def nmF (j : Nat) : Str := ⟨#[cpF j]⟩
noncomputable def opF (fg : List Int) : OpE where
  nm := nmF
  num j := 29 + j
  fn j := 32 + j
  lev := levF fg
  fix := fixF' fg
  lft j := (bnd (levF fg j) (fixF' fg j)).1
  rgt j := if j < 3 then (bnd (levF fg j) (fixF' fg j)).2 else levF fg j - 1
  inf j := decide (j < 3)
theorem in3_fix (k : Nat) : fixK (in3 k) = .str "infix" := by
  match k with
  | 0 => kernel_rfl
  | 1 => kernel_rfl
  | _ + 2 => kernel_rfl
theorem po2_fix (k : Nat) : fixK (po2 k) = .str "postfix" := by
  match k with
  | 0 => kernel_rfl
  | _ + 1 => kernel_rfl
theorem in3_sides (k : Nat) : ∃ c0 c1, (seqIndex? 0 (in3 k).length).bind ((in3 k).cps[·]?) = some c0 ∧ (seqIndex? (-1) (in3 k).length).bind ((in3 k).cps[·]?) = some c1 ∧ ∀ lv, sides1 c0 lv = (bnd lv (in3 k)).1 ∧ sides1 c1 lv = (bnd lv (in3 k)).2 := by
  match k with
  | 0 => exact ⟨121, 120, by kernel_rfl, by kernel_rfl, fun lv => ⟨by kernel_rfl, by kernel_rfl⟩⟩
  | 1 => exact ⟨120, 121, by kernel_rfl, by kernel_rfl, fun lv => ⟨by kernel_rfl, by kernel_rfl⟩⟩
  | _ + 2 => exact ⟨120, 120, by kernel_rfl, by kernel_rfl, fun lv => ⟨by kernel_rfl, by kernel_rfl⟩⟩
theorem po2_sides (k : Nat) : ∃ c0 c1, (seqIndex? 0 (po2 k).length).bind ((po2 k).cps[·]?) = some c0 ∧ (seqIndex? (-1) (po2 k).length).bind ((po2 k).cps[·]?) = some c1 ∧ ∀ lv, sides1 c0 lv = (bnd lv (po2 k)).1 ∧ sides1 c1 lv = lv - 1 := by
  match k with
  | 0 => exact ⟨121, 102, by kernel_rfl, by kernel_rfl, fun lv => ⟨by kernel_rfl, by kernel_rfl⟩⟩
  | _ + 1 => exact ⟨120, 102, by kernel_rfl, by kernel_rfl, fun lv => ⟨by kernel_rfl, by kernel_rfl⟩⟩
/-! what stands after i turns of the first loop -/
noncomputable def namesF (i : Nat) : List Str := (List.range i).map nmF
noncomputable def tsF (i : Nat) : List Str := fixA ++ namesF i
noncomputable def arF (j : Nat) : Int := if j < 3 then 2 else 1
noncomputable def fkF (i : Nat) : List (Int × Int) := fnK ++ (List.range i).map fun (j : Nat) => ((29 + (j : Int)), arF j)
noncomputable def kdF (i : Nat) : List (Int × AV) := (List.range i).map fun (j : Nat) => ((32 + (j : Int)), .str (nmF j))
noncomputable def enF (fg : List Int) (i : Nat) : List (Str × AV) := (List.range i).map fun j => (nmF j, .tup [.int (levF fg j), .int ((opF fg).lft j), .int ((opF fg).rgt j)])
noncomputable def kiF (fg : List Int) (i : Nat) : List (Int × AV) := (7, .tup [.int 1000, .str "xfy"]) :: (List.range (min i 3)).map fun (j : Nat) => ((29 + (j : Int)), (opF fg).ent j)
noncomputable def ksF (fg : List Int) (i : Nat) : List (Int × AV) := (List.range (i - 3)).map fun (j : Nat) => ((29 + ((3 + j : Nat) : Int)), (opF fg).ent (3 + j))
theorem nm5_nd : ∀ i, i < 5 → nmF i ∉ namesF i ∧ nmF i ∉ fixA := by decide +kernel
theorem ts_nd : (tsF 5).Nodup := by decide +kernel
theorem fk_nd : (fkF 5).Nodup := by decide +kernel
theorem nm_at : ∀ i : Nat, i < 5 → (seqIndex? (i : Int) ("uvwpq" : Str).length).bind (("uvwpq" : Str).cps[·]?) = some (cpF i) := by decide +kernel
theorem ts_snoc (i : Nat) : tsF i ++ [nmF i] = tsF (i + 1) := by unfold tsF namesF; rw [List.range_succ, List.map_append, List.append_assoc]; rfl
theorem fk_snoc (i : Nat) : fkF i ++ [((29 + (i : Int)), arF i)] = fkF (i + 1) := by unfold fkF; rw [List.range_succ, List.map_append, List.append_assoc]; rfl
theorem ts_len (i : Nat) : (tsF i).length = 29 + i := by unfold tsF namesF; simp [show fixA.length = 29 from rfl]
theorem fk_len (i : Nat) : (fkF i).length = 32 + i := by unfold fkF; simp [show fnK.length = 32 from rfl]
theorem ts_new {i : Nat} (h : i < 5) : nmF i ∉ tsF i := by
  unfold tsF; rw [List.mem_append, not_or]; exact ⟨(nm5_nd i h).2, (nm5_nd i h).1⟩
theorem fk_new {i : Nat} (h : i < 5) : ((29 + (i : Int)), arF i) ∉ fkF i := by
  have : ∀ i, i < 5 → ((29 + (i : Int)), arF i) ∉ fkF i := by decide +kernel
  exact this i h
theorem ts_pre {i k : Nat} (h : i ≤ k) : (tsF i).Sublist (tsF k) := by
  obtain ⟨d, rfl⟩ := Nat.le.dest h
  induction d with
  | zero => exact .refl _
  | succ d ih => exact (ih (by omega)).trans (by rw [show i + (d + 1) = (i + d) + 1 from rfl, ← ts_snoc]; exact List.sublist_append_left _ _)
theorem ts_at (i : Nat) : (tsF (i + 1))[29 + i]? = some (nmF i) := by
  rw [← ts_snoc, List.getElem?_append_right (by rw [ts_len]; omega), ts_len]; simp
theorem range_keys {κ : Type} [DecidableEq κ] (f : Nat → κ) (v : Nat → AV) (i : Nat) (h : ∀ j, j < i → f j ≠ f i) : aput ((List.range i).map fun j => (f j, v j)) (f i) (v i) = (List.range (i + 1)).map fun j => (f j, v j) := by
  rw [aput_new, List.range_succ, List.map_append]
  · rfl
  · rw [List.map_map]; intro q
    obtain ⟨j, hj, e⟩ := List.mem_map.mp q
    exact h j (List.mem_range.mp hj) e
theorem nm_inj : ∀ i, i < 5 → ∀ j, j < i → nmF j ≠ nmF i := by decide +kernel
theorem kd_put (i : Nat) : aput (kdF i) (32 + (i : Int)) (.str (nmF i)) = kdF (i + 1) := range_keys (fun j => 32 + (j : Int)) (fun j => .str (nmF j)) i fun j h => by omega
theorem en_put {fg : List Int} {i : Nat} (h : i < 5) : aput (enF fg i) (nmF i) (.tup [.int (levF fg i), .int ((opF fg).lft i), .int ((opF fg).rgt i)]) = enF fg (i + 1) :=
  range_keys nmF (fun j => .tup [.int (levF fg j), .int ((opF fg).lft j), .int ((opF fg).rgt j)]) i (nm_inj i h)
theorem ki_put {fg : List Int} {i : Nat} (h : i < 3) : aput (kiF fg i) (29 + (i : Int)) ((opF fg).ent i) = kiF fg (i + 1) := by
  have e1 : min i 3 = i := by omega
  have e2 : min (i + 1) 3 = i + 1 := by omega
  unfold kiF
  rw [e1, e2, ← range_keys (fun j => 29 + (j : Int)) (fun j => (opF fg).ent j) i (fun j h => by omega)]
  have h1 : (29 + (i : Int)) ∉ ((List.range i).map fun (j : Nat) => ((29 + (j : Int)), (opF fg).ent j)).map (·.1) := by
    rw [List.map_map]; intro q; obtain ⟨j, hj, e⟩ := List.mem_map.mp q; have := List.mem_range.mp hj; simp at e; omega
  rw [aput_new h1, aput_new (by simp only [List.map_cons, List.mem_cons, not_or]; exact ⟨by omega, h1⟩)]
  rfl
theorem ki_same {fg : List Int} {i : Nat} (h : 3 ≤ i) : kiF fg (i + 1) = kiF fg i := by
  unfold kiF; rw [show min i 3 = 3 by omega, show min (i + 1) 3 = 3 by omega]
theorem ks_put {fg : List Int} {i : Nat} (h : 3 ≤ i) : aput (ksF fg i) (29 + (i : Int)) ((opF fg).ent i) = ksF fg (i + 1) := by
  obtain ⟨d, rfl⟩ := Nat.le.dest h
  unfold ksF
  rw [show 3 + d - 3 = d by omega, show 3 + d + 1 - 3 = d + 1 by omega]
  exact range_keys (fun j => 29 + ((3 + j : Nat) : Int)) (fun j => (opF fg).ent (3 + j)) d fun j h => by omega
theorem ks_same {fg : List Int} {i : Nat} (h : i < 3) : ksF fg (i + 1) = ksF fg i := by
  unfold ksF; rw [show i - 3 = 0 by omega, show i + 1 - 3 = 0 by omega]
noncomputable def mostF (fg : List Int) : Int := if 0 < gf fg 3 then 1 + Int.fmod (baseF fg + gf fg 2 * Int.fmod (gf fg 3) 5) 1200 - Int.fmod (Int.fdiv (gf fg 3) 5) 2 else 1200
noncomputable def jF (fg : List Int) (i : Nat) : Nat := (Int.fmod (gf fg (10 + i)) 5).toNat
noncomputable def mkP (fg : List Int) : Nat → List Pt
  | 0 => [.num 0]
  | i + 1 => mkP fg i ++ (.op (jF fg i) :: if jF fg i < 3 then [.num ((mkP fg i).length + 1 : Nat)] else [])
noncomputable def nP (fg : List Int) : Nat := (Int.fmod (gf fg 9 + 2) 7).toNat
theorem mkP_len (fg : List Int) : ∀ i, (mkP fg i).length ≤ 1 + 2 * i
  | 0 => by simp [mkP]
  | i + 1 => by
    have := mkP_len fg i
    simp only [mkP, List.length_append, List.length_cons]
    split <;> simp <;> omega
theorem jF_lt (fg : List Int) (i : Nat) : jF fg i < 5 ∧ Int.fmod (gf fg (10 + i)) 5 = (jF fg i : Int) := by
  have h1 := Int.fmod_nonneg_of_pos (gf fg (10 + i)) (b := 5) (by decide)
  have h2 := Int.fmod_lt_of_pos (gf fg (10 + i)) (b := 5) (by decide)
  unfold jF; omega
theorem nm_in : ∀ j, j < 5 → Txt.contains ("uvw" : Str) (nmF j) = decide (j < 3) := by decide +kernel
theorem mkP_ops (fg : List Int) : ∀ i j, Pt.op j ∈ mkP fg i → j < 5
  | 0, j, h => by simp [mkP] at h
  | i + 1, j, h => by
    simp only [mkP, List.mem_append, List.mem_cons] at h
    rcases h with h | h | h
    · exact mkP_ops fg i j h
    · cases h; exact (jF_lt fg i).1
    · split at h <;> simp at h
noncomputable def Pt.tk : Pt → Tk
  | .num k => .int k
  | .op j => .op j
noncomputable def tkL (O : OpE) (P : List Pt) : List AV := P.zipIdx.map fun p => tokAV O (2 * (p.2 : Int)) p.1.tk
theorem tkL_at {O : OpE} {P : List Pt} {i : Nat} {x : Pt} (h : P[i]? = some x) : (tkL O P)[i]? = some (tokAV O (2 * (i : Int)) x.tk) := by
  unfold tkL; simp [List.getElem?_map, List.getElem?_zipIdx, h]
theorem tkL_len (O : OpE) (P : List Pt) : (tkL O P).length = P.length := by unfold tkL; simp
theorem levF_b (fg : List Int) (j : Nat) : 1 ≤ levF fg j ∧ levF fg j ≤ 1200 := by
  have h1 := Int.fmod_nonneg_of_pos (baseF fg + gf fg 2 * Int.fmod (gf fg (4 + j)) 5) (b := 1200) (by decide)
  have h2 := Int.fmod_lt_of_pos (baseF fg + gf fg 2 * Int.fmod (gf fg (4 + j)) 5) (b := 1200) (by decide)
  unfold levF; omega
theorem bnd_le (lv : Int) (t : Str) (h : 0 ≤ lv) : (bnd lv t).1 ≤ lv ∧ (bnd lv t).2 ≤ lv ∧ -1 ≤ (bnd lv t).1 := by
  unfold bnd
  repeat' split
  all_goals simp only
  all_goals omega
theorem enF_get {fg : List Int} {j : Nat} (h : j < 5) : aget (enF fg 5) (nmF j) = some (.tup [.int (levF fg j), .int ((opF fg).lft j), .int ((opF fg).rgt j)]) := by
  refine aget_at (i := j) ?_ (by unfold enF; simp [List.getElem?_map, List.getElem?_range h])
  have : (enF fg 5).map (·.1) = namesF 5 := by unfold enF namesF; rw [List.map_map]; rfl
  rw [this]; decide +kernel
theorem lOk_F {fg : List Int} {P : List Pt} {j : Nat} (h : j < 5) : LOk (opF fg) P (enF fg 5) j where
  en := enF_get h
  lft := by
    have h1 := levF_b fg j
    have := (bnd_le (levF fg j) (fixF' fg j) (by omega)).1
    show (bnd (levF fg j) (fixF' fg j)).1 < 9999
    omega
  rgt := by
    have h1 := levF_b fg j
    have := (bnd_le (levF fg j) (fixF' fg j) (by omega)).2.1
    show (if j < 3 then (bnd (levF fg j) (fixF' fg j)).2 else levF fg j - 1) < 9999
    split <;> omega
  pq := by
    have : ∀ j, j < 5 → ([AV.str "p", .str "q"].any fun y => y.eqv (.str (nmF j))) = !decide (j < 3) := by
      intro j h
      match j, h with
      | 0, _ => kernel_rfl
      | 1, _ => kernel_rfl
      | 2, _ => kernel_rfl
      | 3, _ => kernel_rfl
      | 4, _ => kernel_rfl
    exact this j h
  uvw := by
    have : ∀ j, j < 5 → ([AV.str "u", .str "v", .str "w"].any fun y => y.eqv (.str (nmF j))) = decide (j < 3) := by
      intro j h
      match j, h with
      | 0, _ => kernel_rfl
      | 1, _ => kernel_rfl
      | 2, _ => kernel_rfl
      | 3, _ => kernel_rfl
      | 4, _ => kernel_rfl
    exact this j h
theorem mostF_b (fg : List Int) : 0 ≤ mostF fg ∧ mostF fg ≤ 1200 := by
  have h1 := Int.fmod_nonneg_of_pos (baseF fg + gf fg 2 * Int.fmod (gf fg 3) 5) (b := 1200) (by decide)
  have h2 := Int.fmod_lt_of_pos (baseF fg + gf fg 2 * Int.fmod (gf fg 3) 5) (b := 1200) (by decide)
  have h3 := Int.fmod_nonneg_of_pos (Int.fdiv (gf fg 3) 5) (b := 2) (by decide)
  have h4 := Int.fmod_lt_of_pos (Int.fdiv (gf fg 3) 5) (b := 2) (by decide)
  unfold mostF; split <;> omega
theorem in3_at {k : Nat} (h : k < 3) : ([AV.str "yfx", .str "xfy", .str "xfx"])[k]? = some (.str (in3 k)) := by
  match k, h with
  | 0, _ => rfl
  | 1, _ => rfl
  | 2, _ => rfl
theorem po2_at {k : Nat} (h : k < 2) : ([AV.str "yf", .str "xf"])[k]? = some (.str (po2 k)) := by
  match k, h with
  | 0, _ => rfl
  | 1, _ => rfl
theorem in3_r (lv : Int) (k : Nat) : (bnd lv (in3 k)).2 = lv ∨ (bnd lv (in3 k)).2 = lv - 1 := by
  match k with
  | 0 => exact .inr (by kernel_rfl)
  | 1 => exact .inl (by kernel_rfl)
  | _ + 2 => exact .inr (by kernel_rfl)
theorem lvOk_F (fg : List Int) (j : Nat) : LvOk (opF fg) j where
  l1 := by
    have h1 := levF_b fg j
    exact (bnd_le (levF fg j) (fixF' fg j) (by omega)).1
  r1 := by
    have h1 := levF_b fg j
    have := (bnd_le (levF fg j) (fixF' fg j) (by omega)).2.1
    show (if j < 3 then (bnd (levF fg j) (fixF' fg j)).2 else levF fg j - 1) ≤ levF fg j
    split <;> omega
  r0 := by
    have h1 := levF_b fg j
    show 0 ≤ (if j < 3 then (bnd (levF fg j) (fixF' fg j)).2 else levF fg j - 1)
    split
    · rename_i h
      have e : fixF' fg j = in3 (k3F fg j) := by unfold fixF'; rw [if_pos h]
      rw [e]
      rcases in3_r (levF fg j) (k3F fg j) with h | h <;> omega
    · omega
theorem row_inf {O : OpE} {L : List Pt} {j : Nat} {k : Int} (W : RowOk O L) (hi : O.inf j = true) : RowOk O (L ++ [.op j, .num k]) := by
  have key : ∀ i x, (L ++ [Pt.op j, Pt.num k])[i]? = some x → (i < L.length ∧ L[i]? = some x) ∨ (i = L.length ∧ x = .op j) ∨ (i = L.length + 1 ∧ x = .num k) := by
    intro i x h
    rcases Nat.lt_or_ge i L.length with hl | hl
    · rw [List.getElem?_append_left hl] at h; exact .inl ⟨hl, h⟩
    · rw [List.getElem?_append_right hl] at h
      obtain ⟨d, hd⟩ : ∃ d, d = i - L.length := ⟨_, rfl⟩
      rw [← hd] at h
      match d, h with
      | 0, h => simp at h; exact .inr (.inl ⟨by omega, h.symm⟩)
      | 1, h => simp at h; exact .inr (.inr ⟨by omega, h.symm⟩)
      | d + 2, h => simp at h
  refine ⟨fun i j' h h1 => ?_, fun i j' h h1 k' h2 => ?_, fun i k1 h k2 h2 => ?_⟩
  · rcases key i _ h with ⟨hl, h⟩ | ⟨rfl, e⟩ | ⟨rfl, e⟩
    · obtain ⟨k', hk⟩ := W.inf i j' h h1
      exact ⟨k', by rw [List.getElem?_append_left (List.getElem?_eq_some_iff.mp hk).1]; exact hk⟩
    · exact ⟨k, by rw [List.getElem?_append_right (by omega)]; simp⟩
    · cases e
  · rcases key i _ h with ⟨hl, h⟩ | ⟨rfl, e⟩ | ⟨rfl, e⟩
    · rcases key _ _ h2 with ⟨hl, h2⟩ | ⟨_, e⟩ | ⟨he, _⟩
      · exact W.post i j' h h1 k' h2
      · cases e
      · omega
    · cases e; rw [hi] at h1; cases h1
    · cases e
  · rcases key i _ h with ⟨hl, h⟩ | ⟨rfl, e⟩ | ⟨rfl, e⟩
    · rcases key _ _ h2 with ⟨hl, h2⟩ | ⟨_, e⟩ | ⟨he, _⟩
      · exact W.num i k1 h k2 h2
      · cases e
      · omega
    · cases e
    · rcases key _ _ h2 with ⟨hl, h2⟩ | ⟨he, e⟩ | ⟨he, _⟩ <;> omega
theorem row_post {O : OpE} {L : List Pt} {j : Nat} (W : RowOk O L) (hi : O.inf j = false) : RowOk O (L ++ [.op j]) := by
  have key : ∀ i x, (L ++ [Pt.op j])[i]? = some x → (i < L.length ∧ L[i]? = some x) ∨ (i = L.length ∧ x = .op j) := by
    intro i x h
    rcases Nat.lt_or_ge i L.length with hl | hl
    · rw [List.getElem?_append_left hl] at h; exact .inl ⟨hl, h⟩
    · rw [List.getElem?_append_right hl] at h
      obtain ⟨d, hd⟩ : ∃ d, d = i - L.length := ⟨_, rfl⟩
      rw [← hd] at h
      match d, h with
      | 0, h => simp at h; exact .inr ⟨by omega, h.symm⟩
      | d + 1, h => simp at h
  refine ⟨fun i j' h h1 => ?_, fun i j' h h1 k' h2 => ?_, fun i k1 h k2 h2 => ?_⟩
  · rcases key i _ h with ⟨hl, h⟩ | ⟨rfl, e⟩
    · obtain ⟨k', hk⟩ := W.inf i j' h h1
      exact ⟨k', by rw [List.getElem?_append_left (List.getElem?_eq_some_iff.mp hk).1]; exact hk⟩
    · cases e; rw [hi] at h1; cases h1
  · rcases key i _ h with ⟨hl, h⟩ | ⟨rfl, e⟩
    · rcases key _ _ h2 with ⟨hl, h2⟩ | ⟨_, e⟩
      · exact W.post i j' h h1 k' h2
      · cases e
    · rcases key _ _ h2 with ⟨hl, h2⟩ | ⟨he, e⟩ <;> omega
  · rcases key i _ h with ⟨hl, h⟩ | ⟨rfl, e⟩
    · rcases key _ _ h2 with ⟨hl, h2⟩ | ⟨_, e⟩
      · exact W.num i k1 h k2 h2
      · cases e
    · cases e
theorem row_F (fg : List Int) : ∀ i, RowOk (opF fg) (mkP fg i)
  | 0 => ⟨fun i j h => by cases i <;> simp [mkP] at h, fun i j h => by cases i <;> simp [mkP] at h, fun i k h k' h' => by cases i <;> simp [mkP] at h h'⟩
  | i + 1 => by
    simp only [mkP]
    split
    · rename_i h; exact row_inf (row_F fg i) (decide_eq_true h)
    · rename_i h; exact row_post (row_F fg i) (decide_eq_false h)
theorem mkP_0 (fg : List Int) : ∀ i, (mkP fg i)[0]? = some (.num 0)
  | 0 => rfl
  | i + 1 => by
    have := mkP_0 fg i
    simp only [mkP]
    rw [List.getElem?_append_left (List.getElem?_eq_some_iff.mp this).1]; exact this
noncomputable def ueF (fg : List Int) : UE where
  nm f := nmF (f - 32).toNat
  lev f := levF fg (f - 32).toNat
  lft f := (opF fg).lft (f - 32).toNat
  rgt f := (opF fg).rgt (f - 32).toNat
theorem fn_to (j : Nat) : ((32 + (j : Int)) - 32).toNat = j := by omega
theorem um_F (fg : List Int) (j : Nat) : UMatch (opF fg) (ueF fg) j := by
  have e := fn_to j
  exact ⟨by show nmF _ = nmF j; rw [show ((opF fg).fn j - 32).toNat = j from e], by show levF fg _ = levF fg j; rw [show ((opF fg).fn j - 32).toNat = j from e], by show (opF fg).lft _ = _; rw [show ((opF fg).fn j - 32).toNat = j from e], fun _ => by show (opF fg).rgt _ = _; rw [show ((opF fg).fn j - 32).toNat = j from e]⟩
theorem nm_ne : ∀ j, j < 5 → (nmF j == "") = false := by decide +kernel
theorem uok_F {fg : List Int} {j : Nat} (h : j < 5) : UOk (ueF fg) (kdF 5) (enF fg 5) (32 + (j : Int)) := by
  have e := fn_to j
  refine ⟨?_, ?_, ?_⟩
  · show _ = some (AV.str (nmF _))
    rw [e]
    refine aget_at (i := j) (by decide) ?_
    unfold kdF; simp [List.getElem?_map, List.getElem?_range h]
  · show (nmF _ == "") = false
    rw [e]; exact nm_ne j h
  · show aget (enF fg 5) (nmF _) = some (.tup [.int (levF fg _), .int ((opF fg).lft _), .int ((opF fg).rgt _)])
    rw [e]; exact enF_get h
theorem ts_ix : ∀ j, j < 5 → (tsF 5)[29 + j]? = some (nmF j) := by decide +kernel
theorem fk_ix : ∀ j : Nat, j < 5 → (fkF 5)[32 + j]? = some ((29 + (j : Int)), arF j) := by decide +kernel
theorem num_F {j : Nat} (h : j < 5) : aget (anD (tsF 5)) (nmF j) = some (.int (29 + (j : Int))) := by
  have := anD_get ts_nd (ts_ix j h)
  rwa [show ((29 + j : Nat) : Int) = 29 + (j : Int) from by omega] at this
theorem fn_F {j : Nat} (h : j < 5) : aget (fnD (fkF 5)) [29 + (j : Int), arF j] = some (.int (32 + (j : Int))) := by
  have := fnD_get fk_nd (fk_ix j h)
  rwa [show ((32 + j : Nat) : Int) = 32 + (j : Int) from by omega] at this
theorem ki_keys (fg : List Int) : (kiF fg 5).map (·.1) = [7, 29, 30, 31] := rfl
theorem ks_keys (fg : List Int) : (ksF fg 5).map (·.1) = [32, 33] := rfl
theorem ki_yes {fg : List Int} {j : Nat} (h : j < 3) : aget (kiF fg 5) (29 + (j : Int)) = some ((opF fg).ent j) := by
  refine aget_at (i := j + 1) (by rw [ki_keys]; decide) ?_
  match j, h with
  | 0, _ => rfl
  | 1, _ => rfl
  | 2, _ => rfl
theorem ks_yes {fg : List Int} {j : Nat} (h : ¬ j < 3) (h5 : j < 5) : aget (ksF fg 5) (29 + (j : Int)) = some ((opF fg).ent j) := by
  refine aget_at (i := j - 3) (by rw [ks_keys]; decide) ?_
  match j, h, h5 with
  | 3, _, _ => rfl
  | 4, _, _ => rfl
theorem ki_no {fg : List Int} {j : Nat} (h : ¬ j < 3) (h5 : j < 5) : aget (kiF fg 5) (29 + (j : Int)) = none := aget_none (by rw [ki_keys]; simp; omega)
theorem ks_no {fg : List Int} {j : Nat} (h : j < 3) : aget (ksF fg 5) (29 + (j : Int)) = none := aget_none (by rw [ks_keys]; simp; omega)
theorem pls_parts (O : OpE) : ∀ P : List Pt, pls 1 (P.map (Pt.av O)) = true
  | [] => rfl
  | .num k :: P => by simp only [List.map_cons, pls, pls_parts O P, Bool.and_true]; rfl
  | .op j :: P => by simp only [List.map_cons, pls, pls_parts O P, Bool.and_true]; rfl
theorem pl_tok (O : OpE) (pos : Int) (t : Tk) : (tokAV O pos t).pl 1 = true := by cases t <;> rfl
theorem pls_all {n : Nat} : ∀ {l : List AV}, (∀ x ∈ l, x.pl n = true) → pls n l = true
  | [], _ => rfl
  | x :: l, h => by simp only [pls, h x (.head _), pls_all fun y hy => h y (.tail _ hy), Bool.and_true]
theorem eqvs_self {n : Nat} {l : List AV} (h : pls n l = true) : eqvs l l = true := (eqvs_iff n n l l h h).mpr rfl
theorem Tr.all_mono {A B : Int → Prop} (h : ∀ f, A f → B f) : ∀ t : Tr, t.all A → t.all B
  | .num _, _ => trivial
  | .un f x, ⟨h1, h2⟩ => ⟨h f h1, Tr.all_mono h x h2⟩
  | .bin f l r, ⟨h1, h2, h3⟩ => ⟨h f h1, Tr.all_mono h l h2, Tr.all_mono h r h3⟩
theorem toks_F {O : OpE} {P : List Pt} {T : List AV} (hT : T = tkL O P ++ [.tup [.str "end", .str ".", .int (2 * (P.length : Int))]]) {i : Nat} {t : Tk} (h : tokOf P i = some t) : i ≤ P.length ∧ ∃ pos, T[i]? = some (tokAV O pos t) := by
  unfold tokOf at h
  have hl := tkL_len O P
  cases hx : P[i]? with
  | some x =>
    have hlt := (List.getElem?_eq_some_iff.mp hx).1
    refine ⟨by omega, 2 * (i : Int), ?_⟩
    rw [hT, List.getElem?_append_left (by omega), tkL_at hx]
    rw [hx] at h
    cases x <;> (simp at h; subst h; rfl)
  | none =>
    rw [hx] at h
    by_cases e : i = P.length
    · simp only [if_pos e] at h
      cases h
      refine ⟨by omega, 2 * (P.length : Int), ?_⟩
      rw [hT, e, List.getElem?_append_right (by omega), hl, Nat.sub_self]; rfl
    · simp [e] at h
theorem tok_ex {P : List Pt} {i : Nat} (h : i ≤ P.length) : ∃ t, tokOf P i = some t := by
  unfold tokOf
  cases hx : P[i]? with
  | some x => cases x <;> exact ⟨_, rfl⟩
  | none =>
    have := List.getElem?_eq_none_iff.mp hx
    exact ⟨.fin, by simp [show i = P.length by omega]⟩
theorem tokAV_tup (O : OpE) (pos : Int) (t : Tk) : ∃ l, tokAV O pos t = .tup l ∧ pls 0 l = true := by cases t <;> exact ⟨_, rfl, rfl⟩
theorem pls_T {O : OpE} {P : List Pt} {T : List AV} (hT : T = tkL O P ++ [.tup [.str "end", .str ".", .int (2 * (P.length : Int))]]) : pls 1 T = true := by
  refine pls_all fun x hx => ?_
  rw [hT] at hx
  rcases List.mem_append.mp hx with hx | hx
  · unfold tkL at hx
    obtain ⟨p, _, rfl⟩ := List.mem_map.mp hx
    exact pl_tok _ _ _
  · obtain rfl := by simpa using hx
    rfl
theorem law_xs {G : Gl} (I : IsG G) {fd : FuncData} {body : List Stmt} (F : FnIn G.K 556 fd ["script"] ["figures", "book", "operators", "base", "entries", "kinds", "step", "name", "level", "fix", "left", "right", "most", "parts", "tokens", "least", "count", "handed", "parser", "term", "row", "high"] ["_law_figures", "Symbols", "OperatorTable", "range", "_law_sides", "len", "_law_least", "Parser", "_law_unfold"] body)
    {wl : Addr} {ns : List Int} (hl : ∀ σ, LAt G σ wl (ns.map .int)) (hz : ns.length ≤ 100) : ∀ X : Fx, X.G = G → X.n = 100 → Lcs X.fd 0 (["script", "figures", "book", "operators", "base", "entries", "kinds", "step", "name", "level", "fix", "left", "right", "most", "parts", "tokens", "least", "count", "handed", "parser", "term", "row", "high"]) → Gbs X.fd ["_law_figures", "Symbols", "OperatorTable", "range", "_law_sides", "len", "_law_least", "Parser", "_law_unfold"] →
      Xs X (execs body X.env) (padL [.ref wl] ["figures", "book", "operators", "base", "entries", "kinds", "step", "name", "level", "fix", "left", "right", "most", "parts", "tokens", "least", "count", "handed", "parser", "term", "row", "high"]) [] NoE (retX fun v σ => v = .bool true) := by
  have q__law_figures := I.fs.gl.f_law_figures
  have q_Symbols := I.fs.gl.f_Symbols
  have q_OperatorTable := I.fs.gl.f_OperatorTable
  have q_range := I.fs.gl.b_range
  have q__law_sides := I.fs.gl.f_law_sides
  have q_len := I.fs.gl.b_len
  have q__law_least := I.fs.gl.f_law_least
  have q_Parser := I.fs.gl.f_Parser
  have q__law_unfold := I.fs.gl.f_law_unfold
  have mSy_atom := I.fs.sy.m_atom
  have mSy_func := I.fs.sy.m_func
  have mOp_add := I.fs.op.m_add
  have aPa_place := I.fs.pa.a_place
  have mPa_peek := I.fs.pa.m_peek
  have mPa_parse := I.fs.pa.m_parse
  obtain ⟨oc, od, osl, hlook⟩ := F.look
  obtain ⟨oc', od', osl', hlook'⟩ : ∃ oc od osl, G.K.lookup 556 = some ⟨oc, od, .func _, osl⟩ := by rw [I.k]; exact ⟨_, _, _, rfl⟩
  rw [hlook] at hlook'
  have hfd := F.body
  injection hlook' with hlook'
  injection hlook' with _ _ hdata _
  injection hdata with hdata
  rw [hdata] at hfd
  injection hfd with hbody
  have hbody := (fun {b b' c : List Stmt} (h : b = c) (e : b = b') => (e.symm.trans h : b' = c)) hbody (by conv => lhs; whnf)
  subst hbody
  clear hdata hlook F
  rintro X rfl hn ⟨l0, l1, l2, l3, l4, l5, l6, l7, l8, l9, l10, l11, l12, l13, l14, l15, l16, l17, l18, l19, l20, l21, l22, -⟩ ⟨g0, g1, g2, g3, g4, g5, g6, g7, g8, -⟩
  dsimp only [padL, List.map, List.cons_append, List.nil_append, List.length_cons, List.length_nil, List.replicate, Nat.zero_add]
  walk_at "W"
  refine Cl.fn' (c_figures I (wn := 18) hl hz (by decide) fun za fg hfg hdig => ?_) (le_n hn (by decide))
  have hg : ∀ i, i < 18 → (fg.map AV.int)[i]? = some (.int (gf fg i)) ∧ 0 ≤ gf fg i ∧ gf fg i < 96 := fun i hi => by
    have : fg[i]? = some (gf fg i) := by
      unfold gf; rw [List.getD_eq_getElem?_getD, List.getElem?_eq_getElem (by omega)]; rfl
    refine ⟨by rw [List.getElem?_map, this]; rfl, hdig _ (List.mem_of_getElem? this)⟩
  walk_at "W"
  refine Cl.fn' (mk_Symbols I fun sy dsy tl an fl fn => ?_) (le_n hn (by decide))
  walk_at "W"
  refine Cl.fn' (mk_Operators I fun o od pt it st => ?_) (le_n hn (by decide))
  walk_at "W"
  refine Op2.itList rfl (by walk_at "M") (by decide) (by decide) (hg 0 (by decide)).1 ?_
  walk_at "W"
  refine Op2.mul (.of_right (by decide)) ?_
  walk_at "W"
  refine Op2.itList rfl (by walk_at "M") (by decide) (by decide) (hg 1 (by decide)).1 ?_
  walk_at "W"
  refine Ev.dictS fun ea => ?_
  walk_at "W"
  refine Ev.dictI fun ka => ?_
  walk_at "W"
  refine Xs.forRange (by walk_at "L") (fun _ => rfl) ?_
  walk_at "W"
  refine Cl.range1 fun rg => ?_
  refine ⟨rg, _, _, _, rfl, rfl, by omega, by omega, by omega, by omega, fun i m σ' => ∃ st_ nm_ lv_ fx_ le_ ri_, m = [some (.ref wl), some (.ref za), some (.ref sy), some (.ref o), some (.int (baseF fg)), some (.ref ea), some (.ref ka), st_, nm_, lv_, fx_, le_, ri_, none, none, none, none, none, none, none, none, none, none] ∧ i ≤ 5 ∧
    σ' = (ka, .dI (kdF i)) :: (ea, .dS (enF fg i)) :: opS o od sy pt it st [] (kiF fg i) (ksF fg i) (syS tl an fl fn (tsF i) (fkF i) ((sy, .inst 154 dsy) :: (dsy, .ns nmSy [some (.ref tl), some (.ref an), some (.ref fl), some (.ref fn)]) :: (za, .list (fg.map .int)) :: [])), ⟨_, _, _, _, _, _, rfl, by omega, rfl⟩, ?_, ?_⟩
  · rintro i m σ' hi ⟨st_, nm_, lv_, fx_, le_, ri_, rfl, -, rfl⟩
    have hi5 : i < 5 := by omega
    refine ⟨_, by walk_at "SA", ?_⟩
    rw [show (0 : Int) + (i : Int) = (i : Int) from by omega]
    refine Xs.weak ?_
    walk_at "W"
    refine Op2.itStr rfl (by omega) (by omega) (nm_at i hi5) ?_
    rw [show (⟨#[cpF i]⟩ : Str) = nmF i from rfl]
    walk_at "W"
    refine Op2.itList rfl (by walk_at "M") (by decide) (by decide) (hg 2 (by decide)).1 ?_
    walk_at "W"
    have g4 := hg (4 + i) (by omega)
    have e4 : ((4 : Int) + (i : Int)).toNat = 4 + i := by omega
    refine Op2.itList rfl (by walk_at "M") (by omega) (by omega) (by rw [e4]; exact g4.1) ?_
    walk_at "W"
    have m5 := Int.fmod_nonneg_of_pos (gf fg (4 + i)) (b := 5) (by decide)
    have m5' := Int.fmod_lt_of_pos (gf fg (4 + i)) (b := 5) (by decide)
    refine Op2.mod (by decide) ?_
    refine Op2.mul (mulOk m5 (by omega)) ?_
    walk_at "W"
    refine Op2.mod (by decide) ?_
    walk_at "W"
    have hlev := levF_b fg i
    rw [show (1 : Int) + Int.fmod (baseF fg + gf fg 2 * Int.fmod (gf fg (4 + i)) 5) 1200 = levF fg i from rfl]
    intro la _
    walk_at "W"
    refine Op2.itList rfl (by walk_at "M") (by omega) (by omega) (by rw [e4]; exact g4.1) ?_
    walk_at "W"
    refine Op2.fdiv (by decide) (PyProof.noPylong_small (by decide)) ?_
    walk_at "W"
    refine Op2.mod (by decide) ?_
    have m3 := Int.fmod_nonneg_of_pos (Int.fdiv (gf fg (4 + i)) 5) (b := 3) (by decide)
    have m3' := Int.fmod_lt_of_pos (Int.fdiv (gf fg (4 + i)) 5) (b := 3) (by decide)
    refine Op2.itList rfl (by walk_at "M") m3 (by omega) (in3_at (k := k3F fg i) (by unfold k3F; omega)) ?_
    walk_at "W"
    refine ifX_c (fun h => ?_) (fun h => ?_)
    · have h3 : 3 ≤ i := by simp at h; omega
      have efix : fixF' fg i = po2 (k2F fg i) := by unfold fixF'; rw [if_neg (by omega)]
      walk_at "W"
      intro lb _
      walk_at "W"
      refine Op2.itList rfl (by walk_at "M") (by omega) (by omega) (by rw [e4]; exact g4.1) ?_
      walk_at "W"
      refine Op2.fdiv (by decide) (PyProof.noPylong_small (by decide)) ?_
      walk_at "W"
      refine Op2.mod (by decide) ?_
      have m2 := Int.fmod_nonneg_of_pos (Int.fdiv (gf fg (4 + i)) 5) (b := 2) (by decide)
      have m2' := Int.fmod_lt_of_pos (Int.fdiv (gf fg (4 + i)) 5) (b := 2) (by decide)
      refine Op2.itList rfl (by walk_at "M") m2 (by omega) (po2_at (k := k2F fg i) (by unfold k2F; omega)) ?_
      rw [← efix]
      walk_at "W"
      refine Cl.fn' (sy_atom_new I (x := sy) (dx := dsy) (tl := tl) (an := an) (fl := fl) (fn := fn) (ts := (tsF i).map .str) (kvs := anD (tsF i)) (by walk_at "M") (by walk_at "M") (by walk_at "M") (by walk_at "M") (by walk_at "M") (by walk_at "M") (anD_none (ts_new hi5)) (by rw [List.length_map, ts_len]; omega) (by rw [anD_len, ts_len]; omega) (.there (.there (.there (.there (.there (.there (.there (.there (.there (.there (.there (.there (.here))))))))))))) (.there (.there (.there (.there (.there (.there (.there (.there (.there (.there (.there (.here)))))))))))) ?_) (le_n hn (by decide))
      rw [List.length_map, anD_put (ts_new hi5), show (tsF i).map AV.str ++ [.str (nmF i)] = (tsF (i + 1)).map AV.str from by rw [← ts_snoc, List.map_append]; rfl, ts_snoc, ts_len, show ((29 + i : Nat) : Int) = 29 + (i : Int) from by omega]
      walk_at "W"
      refine Cl.fn' (c_add_postfix I (by walk_at "M") (by walk_at "M") (by rw [efix]; exact po2_fix _) (by omega) (by unfold ksF; simp; omega) (.there (.there (.there (.there (.here))))) ?_) (le_n hn (by decide))
      rw [show AV.tup [.int (levF fg i), .str (fixF' fg i)] = (opF fg).ent i from rfl, ks_put h3]
      walk_at "W"
      obtain ⟨c0, c1, hs0, hs1, hs⟩ := po2_sides (k2F fg i)
      rw [← efix] at hs0 hs1 hs
      refine Cl.fn' (c_sides I hs0 hs1 ?_) (le_n hn (by decide))
      rw [(hs _).1, (hs _).2, show (bnd (levF fg i) (fixF' fg i)).1 = (opF fg).lft i from rfl, show levF fg i - 1 = (opF fg).rgt i from (if_neg (by omega)).symm]
      walk_at "W"
      refine Xs.setItemS rfl ?_
      walk_at "W"
      refine ⟨_, _, _, _, rfl, rfl, (.there (.there (.there (.here)))), by unfold enF; simp; omega, by omega, ?_⟩
      rw [en_put hi5]
      walk_at "W"
      refine Xs.setItemI rfl ?_
      walk_at "W"
      refine ifE_f (by simp; omega) ?_
      walk_at "W"
      have hget : aget (anD (tsF (i + 1))) (nmF i) = some (.int (29 + (i : Int))) := by
        have := anD_get (ts_nd.sublist (ts_pre (i := i + 1) (k := 5) (by omega))) (ts_at i)
        rwa [show ((29 + i : Nat) : Int) = 29 + (i : Int) from by omega] at this
      have har : arF i = 1 := if_neg (by omega)
      have hfk := fk_new hi5
      rw [har] at hfk
      have hsn := fk_snoc i
      rw [har] at hsn
      refine Cl.fn' (c_func I (x := sy) (dx := dsy) (tl := tl) (an := an) (fl := fl) (fn := fn) (fs := flD (fkF i)) (kvs := fnD (fkF i)) (by walk_at "M") (by walk_at "M") (by walk_at "M") hget (by omega) (by walk_at "M") (by walk_at "M") (fnD_none hfk) (.there (.there (.there (.there (.there (.there (.there (.there (.there (.there (.here))))))))))) (by walk_at "M") (by walk_at "M") (.there (.there (.there (.there (.there (.there (.there (.there (.there (.here)))))))))) (by rw [flD_len, fk_len]; omega) (by rw [fnD_len, fk_len]; omega) ?_) (le_n hn (by decide))
      rw [flD_len, fnD_put hfk, show flD (fkF i) ++ [.tup [.int (29 + (i : Int)), .int 1]] = flD (fkF (i + 1)) from by rw [← hsn]; unfold flD; rw [List.map_append]; rfl, hsn, fk_len, show ((32 + i : Nat) : Int) = 32 + (i : Int) from by omega]
      walk_at "W"
      refine ⟨_, _, _, _, rfl, rfl, (.there (.there (.here))), by unfold kdF; simp; omega, by omega, ?_⟩
      rw [kd_put]
      walk_at "W"
      exact ⟨_, .cut (.cut (.refl _)), _, _, _, _, _, _, rfl, by omega, by rw [ki_same h3]⟩
    · have h3 : i < 3 := by simp at h; omega
      have efix : fixF' fg i = in3 (k3F fg i) := by unfold fixF'; rw [if_pos h3]
      rw [← efix]
      walk_at "W"
      refine Cl.fn' (sy_atom_new I (x := sy) (dx := dsy) (tl := tl) (an := an) (fl := fl) (fn := fn) (ts := (tsF i).map .str) (kvs := anD (tsF i)) (by walk_at "M") (by walk_at "M") (by walk_at "M") (by walk_at "M") (by walk_at "M") (by walk_at "M") (anD_none (ts_new hi5)) (by rw [List.length_map, ts_len]; omega) (by rw [anD_len, ts_len]; omega) (.there (.there (.there (.there (.there (.there (.there (.there (.there (.there (.there (.here)))))))))))) (.there (.there (.there (.there (.there (.there (.there (.there (.there (.there (.here))))))))))) ?_) (le_n hn (by decide))
      rw [List.length_map, anD_put (ts_new hi5), show (tsF i).map AV.str ++ [.str (nmF i)] = (tsF (i + 1)).map AV.str from by rw [← ts_snoc, List.map_append]; rfl, ts_snoc, ts_len, show ((29 + i : Nat) : Int) = 29 + (i : Int) from by omega]
      walk_at "W"
      refine Cl.fn' (c_add_infix I (by walk_at "M") (by walk_at "M") (by rw [efix]; exact in3_fix _) (by omega) (by unfold kiF; simp; omega) (.there (.there (.there (.there (.here))))) ?_) (le_n hn (by decide))
      rw [show AV.tup [.int (levF fg i), .str (fixF' fg i)] = (opF fg).ent i from rfl, ki_put h3]
      walk_at "W"
      obtain ⟨c0, c1, hs0, hs1, hs⟩ := in3_sides (k3F fg i)
      rw [← efix] at hs0 hs1 hs
      refine Cl.fn' (c_sides I hs0 hs1 ?_) (le_n hn (by decide))
      rw [(hs _).1, (hs _).2, show (bnd (levF fg i) (fixF' fg i)).1 = (opF fg).lft i from rfl, show (bnd (levF fg i) (fixF' fg i)).2 = (opF fg).rgt i from (if_pos h3).symm]
      walk_at "W"
      refine Xs.setItemS rfl ?_
      walk_at "W"
      refine ⟨_, _, _, _, rfl, rfl, (.there (.there (.here))), by unfold enF; simp; omega, by omega, ?_⟩
      rw [en_put hi5]
      walk_at "W"
      refine Xs.setItemI rfl ?_
      walk_at "W"
      refine ifE_t (by simp; omega) ?_
      walk_at "W"
      have hget : aget (anD (tsF (i + 1))) (nmF i) = some (.int (29 + (i : Int))) := by
        have := anD_get (ts_nd.sublist (ts_pre (i := i + 1) (k := 5) (by omega))) (ts_at i)
        rwa [show ((29 + i : Nat) : Int) = 29 + (i : Int) from by omega] at this
      have har : arF i = 2 := if_pos h3
      have hfk := fk_new hi5
      rw [har] at hfk
      have hsn := fk_snoc i
      rw [har] at hsn
      refine Cl.fn' (c_func I (x := sy) (dx := dsy) (tl := tl) (an := an) (fl := fl) (fn := fn) (fs := flD (fkF i)) (kvs := fnD (fkF i)) (by walk_at "M") (by walk_at "M") (by walk_at "M") hget (by omega) (by walk_at "M") (by walk_at "M") (fnD_none hfk) (.there (.there (.there (.there (.there (.there (.there (.there (.there (.here)))))))))) (by walk_at "M") (by walk_at "M") (.there (.there (.there (.there (.there (.there (.there (.there (.here))))))))) (by rw [flD_len, fk_len]; omega) (by rw [fnD_len, fk_len]; omega) ?_) (le_n hn (by decide))
      rw [flD_len, fnD_put hfk, show flD (fkF i) ++ [.tup [.int (29 + (i : Int)), .int 2]] = flD (fkF (i + 1)) from by rw [← hsn]; unfold flD; rw [List.map_append]; rfl, hsn, fk_len, show ((32 + i : Nat) : Int) = 32 + (i : Int) from by omega]
      walk_at "W"
      refine ⟨_, _, _, _, rfl, rfl, (.there (.here)), by unfold kdF; simp; omega, by omega, ?_⟩
      rw [kd_put]
      walk_at "W"
      exact ⟨_, .cut (.refl _), _, _, _, _, _, _, rfl, by omega, by rw [ks_same h3]⟩
  · rintro m σ' ⟨st_, nm_, lv_, fx_, le_, ri_, rfl, -, rfl⟩
    rw [show ((5 : Int) - 0).toNat = 5 from rfl]
    iterate 6 walk_at "S"
    refine Xs.cons (Xs.mono (Q := fun f m' σ' => f = .next ∧ m' = [some (.ref wl), some (.ref za), some (.ref sy), some (.ref o), some (.int (baseF fg)), some (.ref ea), some (.ref ka), st_, nm_, lv_, fx_, le_, ri_, some (.int (mostF fg)), none, none, none, none, none, none, none, none, none] ∧ σ' = (ka, .dI (kdF 5)) :: (ea, .dS (enF fg 5)) :: opS o od sy pt it st [] (kiF fg 5) (ksF fg 5) (syS tl an fl fn (tsF 5) (fkF 5) ((sy, .inst 154 dsy) :: (dsy, .ns nmSy [some (.ref tl), some (.ref an), some (.ref fl), some (.ref fn)]) :: (za, .list (fg.map .int)) :: []))) ?_ ?_)
    · walk_at "W"
      refine Op2.itList rfl (by walk_at "M") (by decide) (by decide) (hg 3 (by decide)).1 ?_
      walk_at "W"
      refine ifX_c (fun h => ?_) (fun h => ?_)
      · have h : 0 < gf fg 3 := by simpa using h
        walk_at "W"
        refine Op2.itList rfl (by walk_at "M") (by decide) (by decide) (hg 2 (by decide)).1 ?_
        walk_at "W"
        refine Op2.itList rfl (by walk_at "M") (by decide) (by decide) (hg 3 (by decide)).1 ?_
        walk_at "W"
        refine Op2.mod (by decide) ?_
        refine Op2.mul (mulOk (Int.fmod_nonneg_of_pos _ (by decide)) (Int.lt_trans (Int.fmod_lt_of_pos _ (by decide)) (by decide))) ?_
        walk_at "W"
        refine Op2.mod (by decide) ?_
        walk_at "W"
        refine Op2.itList rfl (by walk_at "M") (by decide) (by decide) (hg 3 (by decide)).1 ?_
        walk_at "W"
        refine Op2.fdiv (by decide) (PyProof.noPylong_small (by decide)) ?_
        walk_at "W"
        refine Op2.mod (by decide) ?_
        walk_at "W"
        exact ⟨rfl, by unfold mostF; rw [if_pos h], rfl⟩
      · have h : ¬ 0 < gf fg 3 := by simpa using h
        walk_at "W"
        exact ⟨rfl, by unfold mostF; rw [if_neg h], rfl⟩
    rintro f m' σ' ⟨rfl, rfl, rfl⟩
    walk_at "W"
    intro pa _
    walk_at "W"
    refine Xs.forRange (by walk_at "L") (fun _ => rfl) ?_
    walk_at "W"
    refine Op2.itList rfl (by walk_at "M") (by decide) (by decide) (hg 9 (by decide)).1 ?_
    walk_at "W"
    refine Op2.mod (by decide) ?_
    walk_at "W"
    have n7 := Int.fmod_nonneg_of_pos (gf fg 9 + 2) (b := 7) (by decide)
    have n7' := Int.fmod_lt_of_pos (gf fg 9 + 2) (b := 7) (by decide)
    refine Cl.range1 fun rg2 => ?_
    refine ⟨rg2, _, _, _, rfl, rfl, by omega, by omega, by omega, by omega, fun i m σ' => ∃ st_ nm_, m = [some (.ref wl), some (.ref za), some (.ref sy), some (.ref o), some (.int (baseF fg)), some (.ref ea), some (.ref ka), st_, nm_, lv_, fx_, le_, ri_, some (.int (mostF fg)), some (.ref pa), none, none, none, none, none, none, none, none] ∧ σ' = (pa, .list ((mkP fg i).map (Pt.av (opF fg)))) :: (ka, .dI (kdF 5)) :: (ea, .dS (enF fg 5)) :: opS o od sy pt it st [] (kiF fg 5) (ksF fg 5) (syS tl an fl fn (tsF 5) (fkF 5) ((sy, .inst 154 dsy) :: (dsy, .ns nmSy [some (.ref tl), some (.ref an), some (.ref fl), some (.ref fn)]) :: (za, .list (fg.map .int)) :: [])), ⟨_, _, rfl, rfl⟩, ?_, ?_⟩
    · clear nm_ st_
      rintro i m σ' hi ⟨st_, nm_, rfl, rfl⟩
      have hi6 : i < 6 := by omega
      refine ⟨_, by walk_at "SA", ?_⟩
      rw [show (0 : Int) + (i : Int) = (i : Int) from by omega]
      walk_at "W"
      refine Op2.itList rfl (by walk_at "M") (by omega) (by omega) (by rw [show ((10 : Int) + (i : Int)).toNat = 10 + i from by omega]; exact (hg (10 + i) (by omega)).1) ?_
      walk_at "W"
      refine Op2.mod (by decide) ?_
      obtain ⟨hj1, hj2⟩ := jF_lt fg i
      rw [hj2]
      refine Op2.itStr rfl (by omega) (by omega) (nm_at (jF fg i) hj1) ?_
      rw [show (⟨#[cpF (jF fg i)]⟩ : Str) = nmF (jF fg i) from rfl]
      walk_at "W"
      have hlen := mkP_len fg i
      refine Cl.append (by walk_at "U") (by simp; omega) ?_
      walk_at "W"
      refine Op2.inStr ?_
      walk_at "W"
      rw [nm_in _ hj1]
      by_cases h3 : jF fg i < 3
      · refine ifX_t (by simpa using h3) ?_
        walk_at "W"
        refine Cl.len (by walk_at "M") (by simp; omega) ?_
        walk_at "W"
        refine Cl.append (by walk_at "U") (by simp; omega) ?_
        walk_at "W"
        refine ⟨_, _, rfl, ?_⟩
        simp only [mkP, if_pos h3, List.map_append, List.map_cons, List.map_nil, Pt.av, List.length_append, List.length_map, List.length_cons, List.length_nil, List.append_assoc, List.cons_append, List.nil_append]
        rfl
      · refine ifX_f (by simpa using h3) ?_
        walk_at "W"
        refine ⟨_, _, rfl, ?_⟩
        simp only [mkP, if_neg h3, List.map_append, List.map_cons, List.map_nil, Pt.av]
        rfl
    clear nm_ st_
    rintro m σ' ⟨st_, nm_, rfl, rfl⟩
    rw [show (Int.fmod (gf fg 9 + 2) 7 - 0).toNat = nP fg from by unfold nP; rw [Int.sub_zero]]
    obtain ⟨P, hP⟩ : ∃ P, P = mkP fg (nP fg) := ⟨_, rfl⟩
    have hPl : P.length ≤ 13 := by have := mkP_len fg (nP fg); rw [hP]; unfold nP at this ⊢; omega
    rw [← hP]
    walk_at "W"
    have hops : ∀ j, Pt.op j ∈ P → j < 5 := fun j h => mkP_ops fg (nP fg) j (hP ▸ h)
    intro ta _
    walk_at "W"
    refine Xs.forRange (by walk_at "L") (fun _ => rfl) ?_
    walk_at "W"
    refine Cl.len (by walk_at "M") (by simp; omega) ?_
    rw [List.length_map]
    refine Cl.range1 fun rg3 => ?_
    refine ⟨rg3, _, _, _, rfl, rfl, by omega, by omega, by omega, by omega, fun i m σ' => ∃ st_, m = [some (.ref wl), some (.ref za), some (.ref sy), some (.ref o), some (.int (baseF fg)), some (.ref ea), some (.ref ka), st_, nm_, lv_, fx_, le_, ri_, some (.int (mostF fg)), some (.ref pa), some (.ref ta), none, none, none, none, none, none, none] ∧ σ' = (ta, .list ((tkL (opF fg) P).take i)) :: (pa, .list (P.map (Pt.av (opF fg)))) :: (ka, .dI (kdF 5)) :: (ea, .dS (enF fg 5)) :: opS o od sy pt it st [] (kiF fg 5) (ksF fg 5) (syS tl an fl fn (tsF 5) (fkF 5) ((sy, .inst 154 dsy) :: (dsy, .ns nmSy [some (.ref tl), some (.ref an), some (.ref fl), some (.ref fn)]) :: (za, .list (fg.map .int)) :: [])), ⟨_, rfl, rfl⟩, ?_, ?_⟩
    · clear st_
      rintro i m σ' hi ⟨st_, rfl, rfl⟩
      have hi' : i < P.length := by omega
      refine ⟨_, by walk_at "SA", ?_⟩
      rw [show (0 : Int) + (i : Int) = (i : Int) from by omega]
      obtain ⟨x, hx⟩ : ∃ x, P[i]? = some x := ⟨_, List.getElem?_eq_getElem hi'⟩
      have hpx : (P.map (Pt.av (opF fg)))[(i : Int).toNat]? = some (x.av (opF fg)) := by rw [Int.toNat_natCast, List.getElem?_map, hx]; rfl
      have htl := tkL_len (opF fg) P
      have hT := take_succ_eq (tkL_at (O := opF fg) hx)
      walk_at "W"
      refine Op2.itList rfl (by walk_at "M") (by omega) (by omega) hpx ?_
      walk_at "W"
      cases x with
      | op j =>
        refine Op2.inDS (by omega) (by walk_at "M") (b := true) (by rw [show (opF fg).nm j = nmF j from rfl, enF_get (hops j (List.mem_of_getElem? hx))]; rfl) ?_
        walk_at "W"
        refine ifX_t rfl ?_
        walk_at "W"
        refine Op2.itList rfl (by walk_at "M") (by omega) (by omega) hpx ?_
        walk_at "W"
        refine Op2.mul (mulOk (by omega) (by omega)) ?_
        walk_at "W"
        refine Cl.append (by walk_at "U") (by simp; omega) ?_
        walk_at "W"
        exact ⟨_, rfl, by rw [hT]; rfl⟩
      | num k =>
        refine Op2.tupInDictS (by omega) (by walk_at "M") ?_
        walk_at "W"
        refine ifX_f rfl ?_
        walk_at "W"
        refine Op2.itList rfl (by walk_at "M") (by omega) (by omega) hpx ?_
        dsimp only [Pt.av]
        walk_at "W"
        refine Op2.mul (mulOk (by omega) (by omega)) ?_
        walk_at "W"
        refine Cl.append (by walk_at "U") (by simp; omega) ?_
        walk_at "W"
        exact ⟨_, rfl, by rw [hT]; rfl⟩
    clear st_
    rintro m σ' ⟨st_, rfl, rfl⟩
    rw [show ((P.length : Int) - 0).toNat = P.length from by omega, List.take_of_length_le (by rw [tkL_len]; exact Nat.le_refl _)]
    walk_at "W"
    refine Cl.len (by walk_at "M") (by simp; omega) ?_
    rw [List.length_map]
    refine Op2.mul (mulOk (by omega) (by omega)) ?_
    walk_at "W"
    refine Cl.append (by walk_at "U") (by rw [tkL_len]; omega) ?_
    obtain ⟨T, hT⟩ : ∃ T, T = tkL (opF fg) P ++ [.tup [.str "end", .str ".", .int (2 * (P.length : Int))]] := ⟨_, rfl⟩
    rw [← hT]
    walk_at "W"
    refine Cl.fn' (c_least I (P := P) (O := opF fg) (en := enF fg 5) (by omega) (fun j h => lOk_F (hops j h)) (by walk_at "M") (by walk_at "M") fun ls kvs ht => ?_) (le_n hn (by decide))
    walk_at "W"
    refine Cl.len (by walk_at "M") (by simp; omega) ?_
    rw [List.length_map]
    walk_at "W"
    have hm := mostF_b fg
    have hTl : T.length = P.length + 1 := by rw [hT, List.length_append, tkL_len]; rfl
    have hP0 : P[0]? = some (.num 0) := by rw [hP]; exact mkP_0 fg _
    have hP1 : 1 ≤ P.length := (List.getElem?_eq_some_iff.mp hP0).1
    refine Xs.while (fun n m σ' => ∃ c : Nat, n = c ∧ 1 ≤ c ∧ c ≤ P.length ∧ (∀ e p, c < e → Rd (opF fg) P 0 e p → ¬ p ≤ mostF fg) ∧ m = [some (.ref wl), some (.ref za), some (.ref sy), some (.ref o), some (.int (baseF fg)), some (.ref ea), some (.ref ka), st_, nm_, lv_, fx_, le_, ri_, some (.int (mostF fg)), some (.ref pa), some (.ref ta), some (.ref ls), some (.int (c : Int)), none, none, none, none, none] ∧ σ' = (ls, .dT kvs) :: (ta, .list T) :: (pa, .list (P.map (Pt.av (opF fg)))) :: (ka, .dI (kdF 5)) :: (ea, .dS (enF fg 5)) :: opS o od sy pt it st [] (kiF fg 5) (ksF fg 5) (syS tl an fl fn (tsF 5) (fkF 5) ((sy, .inst 154 dsy) :: (dsy, .ns nmSy [some (.ref tl), some (.ref an), some (.ref fl), some (.ref fn)]) :: (za, .list (fg.map .int)) :: []))) ?_ P.length ⟨P.length, rfl, hP1, Nat.le_refl _, fun e p he hr => by have := hr.le; omega, rfl, rfl⟩
    rintro c m σ' ⟨c', rfl, hc1, hc2, hno, rfl, rfl⟩
    obtain ⟨v, hv1, hv2⟩ := ht.get (a := 0) (b := c) (by omega) hc2 (by omega)
    have hv1 : (aget kvs [0, (c : Int)]).getD (.int 9999) = .int v := hv1
    have hv2 := hv2 (mostF fg) (by omega)
    walk_at "W"
    rw [hv1]
    walk_at "W"
    by_cases hle : v ≤ mostF fg
    case neg =>
      rw [decide_eq_true (by omega : mostF fg < v)]
      have hnc : ∀ p, Rd (opF fg) P 0 c p → ¬ p ≤ mostF fg := fun p hp h => hle (hv2.mpr ⟨p, hp, h⟩)
      have hc3 : 2 ≤ c := by
        rcases Nat.lt_or_ge c 2 with h | h
        · have : c = 1 := by omega
          subst this
          exact absurd hm.1 (hnc 0 (.num hP0))
        · exact h
      show Xs _ _ _ _ _ _
      walk_at "W"
      refine Xs.aug (by walk_at "L") (by walk_at "GA") ?_
      walk_at "W"
      refine Op2.isub ?_
      rw [show (c : Int) - 1 = ((c - 1 : Nat) : Int) from by omega]
      walk_at "W"
      exact ⟨c - 1, by omega, c - 1, rfl, by omega, by omega, fun e p he hr => by
        rcases Nat.lt_or_ge c e with h | h
        · exact hno e p h hr
        · have : e = c := by omega
          subst this; exact hnc p hr, rfl, rfl⟩
    rw [decide_eq_false (by omega : ¬ mostF fg < v)]
    obtain ⟨pc, hpc1, hpc2⟩ := hv2.mp hle
    obtain ⟨nn, r, hnn, hR, hfs, hflat, hprio, hprm, hall, hpl1, hpl2, hrd, hmax⟩ := plain1 (O := opF fg) (P := P) (U := ueF fg) (most := mostF fg) (hP ▸ row_F fg (nP fg)) (fun j _ => lvOk_F fg j) (fun j _ => um_F fg j) hP0 hm.1
    have hc : c = r.pl := by
      have h1 := hmax c pc hpc1 hpc2
      rcases Nat.lt_or_ge c r.pl with h | h
      · exact absurd hprm (hno r.pl r.pr h hrd)
      · omega
    subst hc
    show thenX _ _ _ _ _ _ _
    walk_at "W"
    refine ⟨ta, T, rfl, .own (by walk_at "M"), by omega, fun ha => ?_⟩
    walk_at "W"
    refine Cl.fn' (mk_Parser I fun p pn fr nu na co => ?_) (le_n hn (by decide))
    walk_at "W"
    have hopi : ∀ i j, tokOf P i = some (.op j) → j < 5 := fun i j h => hops j (List.mem_of_getElem? (tok_op.mp h))
    have PE : PEnv (tokOf P) (opF fg) ((p, .inst 517 pn) :: (ha, .list T) :: (ls, .dT kvs) :: (ta, .list T) :: (pa, .list (P.map (Pt.av (opF fg)))) :: (ka, .dI (kdF 5)) :: (ea, .dS (enF fg 5)) :: opS o od sy pt it st [] (kiF fg 5) (ksF fg 5) (syS tl an fl fn (tsF 5) (fkF 5) ((sy, .inst 154 dsy) :: (dsy, .ns nmSy [some (.ref tl), some (.ref an), some (.ref fl), some (.ref fn)]) :: (za, .list (fg.map .int)) :: []))) p pn sy o ha dsy tl an fl fn od pt it st T (anD (tsF 5)) (fnD (fkF 5)) (kiF fg 5) (ksF fg 5) := by
      refine ⟨by walk_at "M", by walk_at "M", by walk_at "M", by walk_at "M", by walk_at "M", by walk_at "M", by walk_at "M", by walk_at "M", by walk_at "M", by walk_at "M", ?_, ?_, ?_, ?_, ?_, ?_⟩
      · intro i t h
        obtain ⟨h1, h2⟩ := toks_F hT h
        exact ⟨by omega, h2⟩
      · intro i j h
        exact ⟨num_F (hopi i j h), by show 0 ≤ 29 + (j : Int); omega⟩
      · intro i j h hi
        have hj : j < 3 := of_decide_eq_true hi
        refine ⟨ki_yes hj, ks_no hj, ?_, if_pos hj⟩
        have := fn_F (hopi i j h)
        rwa [show arF j = 2 from if_pos hj] at this
      · intro i j h hi
        have hj : ¬ j < 3 := of_decide_eq_false hi
        refine ⟨ki_no hj (hopi i j h), ks_yes hj (hopi i j h), ?_⟩
        have := fn_F (hopi i j h)
        rwa [show arF j = 1 from if_neg hj] at this
      · intro i j h
        show 0 ≤ 32 + (j : Int); omega
      · intro i j h; rfl
    refine Cl.fn' (c_parse I (nu := nu) (na := na) (co := co) (fr := fr) PE (tok_int.mpr hP0) hR (by omega) (lim0 := 1200) ?_) (le_n hn (by decide))
    walk_at "W"
    have hsz : r.term.sz = r.pl := by
      have := Tr.flat_len (ueF fg) r.term
      rw [hflat, List.length_map, List.length_take] at this
      omega
    have hth := r.term.h_sz
    refine Cl.fn' (c_unfold I (U := ueF fg) (kd := kdF 5) (en := enF fg 5) r.term (Tr.all_mono (fun f ⟨j, e, hj⟩ => e ▸ uok_F (hops j hj)) _ hall) (by walk_at "M") (by walk_at "M") (by omega) fun y => ?_) (by omega)
    rw [hflat, hprio]
    walk_at "W"
    refine ⟨pa, P.map (Pt.av (opF fg)), r.pl, rfl, rfl, by omega, .own (by walk_at "M"), by simp; omega, fun y2 => ?_⟩
    rw [Int.toNat_natCast, ← List.map_take]
    walk_at "W"
    refine Op2.neL (n := 1) (k := 1) (by walk_at "M") (by walk_at "M") (pls_parts _ _) (pls_parts _ _) (by omega) ?_
    rw [eqvs_self (pls_parts _ _)]
    walk_at "W"
    refine orX_f rfl ?_
    walk_at "W"
    refine orX_f (by simp) ?_
    walk_at "W"
    refine orX_f (by simp; omega) ?_
    walk_at "W"
    refine ifX_f rfl ?_
    walk_at "W"
    obtain ⟨tt, htt⟩ := tok_ex hpl2
    obtain ⟨-, pos, htv⟩ := toks_F hT htt
    obtain ⟨tl', htl, hpt⟩ := tokAV_tup (opF fg) pos tt
    rw [htl] at htv
    refine Cl.fn' (c_peek I (FO := (y2, .list ((P.take r.pl).map (Pt.av (opF fg)))) :: (y, .list ((P.take r.pl).map (Pt.av (opF fg)))) :: []) (S := (fr, .list (frl [])) :: (p, .inst 517 pn) :: (ha, .list T) :: (ls, .dT kvs) :: (ta, .list T) :: (pa, .list (P.map (Pt.av (opF fg)))) :: (ka, .dI (kdF 5)) :: (ea, .dS (enF fg 5)) :: opS o od sy pt it st [] (kiF fg 5) (ksF fg 5) (syS tl an fl fn (tsF 5) (fkF 5) ((sy, .inst 154 dsy) :: (dsy, .ns nmSy [some (.ref tl), some (.ref an), some (.ref fl), some (.ref fn)]) :: (za, .list (fg.map .int)) :: []))) (by walk_at "M") (T := T) (by walk_at "M") (by omega) (by omega) (by simpa using htv) ?_) (le_n hn (by decide))
    walk_at "W"
    refine Op2.itList rfl (by walk_at "M") (by omega) (by omega) (by simpa using htv) ?_
    walk_at "W"
    refine Op2.eqT (n := 0) (k := 0) hpt hpt (by omega) ?_
    rw [eqvs_self hpt]
    refine andV_t rfl ?_
    walk_at "W"
    refine andV_t (by simp) ?_
    walk_at "W"
    refine Op2.eqL (n := 1) (k := 1) (by walk_at "M") (by walk_at "M") (pls_T hT) (pls_T hT) (by omega) ?_
    rw [eqvs_self (pls_T hT)]
    walk_at "W"
    rfl
open PySem PySem.W PySem.Calls PyProof.Rows PySem.SeqAt
theorem to_goal {X : Fx} {m : Loc} {t : Sem Flow} {s : Shared} {R : Flow → Shared → Prop} {E : Value → Shared → Prop} (h : Xs X t m [] NoE (retX fun v σ => v = .bool true)) (S : St X m [] s)
    (hR : ∀ s' : Shared, (∀ b o, X.G.W0.get? b = some o → s'.heap.get? b = some o) → s'.gens = #[] → s'.os = X.G.os0 → R (.ret (.bool true)) s') : wpAny X.M X.A t R E s := by
  refine xs_then (h s S) (fun f s' gg m' σ' r' S' P' q => ?_) fun e s' he => no_EP he
  cases gg with
  | ret v =>
    obtain ⟨w, rfl, rw⟩ := r'
    obtain rfl : v = .bool true := q
    obtain rfl := rw.boolE
    exact hR s' S'.hr.base S'.gens S'.os
  | next => cases (show AV.none = .bool true from q)
  | brk => exact q.elim
  | cont => exact q.elim
theorem start_at {X : Fx} {p : Str} {rest : List Str} {wl : Addr} {h₁ : Heap} {s₁ : Shared} {tk : Nat} (ok : FxOk X) (hW : X.G.W0 = s₁.heap) (hL : X.L = s₁.heap.objs.size) (hn : X.names = p :: rest) (nd : (p :: rest).Nodup)
    (hk : ∀ b o, s₁.heap.get? b = some o → h₁.get? b = some o) (hns : h₁.Ns X.L fun x => List.lookup x [(p, Value.ref wl)]) (hg : s₁.gens = #[]) (ho : s₁.os = X.G.os0) : St X [some (.ref wl)] [] { s₁ with heap := h₁, toks := tk } := by
  refine ⟨ok, ⟨fun p hp => by simp at hp, by simp, fun b o e => hk b o (hW ▸ e), fun p hp => by simp at hp, fun p hp => by simp at hp⟩, ⟨_, hns, fun x => ?_⟩, by simp, ?_, hg, ho⟩
  · rw [hn]
    exact zip_vals (h := h₁) (x := x) (ps := [p]) (rest := rest) (l := [.ref wl]) (vs := [.ref wl]) (.one .refI) rfl nd
  · rw [hW, hL]; exact Heap.get?_none_of_le (Nat.le_refl _)
theorem IntsAre.vrs {h : Heap} : ∀ {vs : List Value} {ns : List Int}, IntsAre vs ns → VRs h (ns.map AV.int) vs
  | _, _, .nil => .nil
  | _, _, .cons n t r => .cons .intI (IntsAre.vrs r)
open PySem PySem.W PyProof.Rows
open PySem PySem.W PySem.Calls PyProof.Rows PySem.SeqAt
noncomputable abbrev lawLs : List Str := ["figures", "book", "operators", "base", "entries", "kinds", "step", "name", "level", "fix", "left", "right", "most", "parts", "tokens", "least", "count", "handed", "parser", "term", "row", "high"]
noncomputable abbrev lawGs : List Str := ["_law_figures", "Symbols", "OperatorTable", "range", "_law_sides", "len", "_law_least", "Parser", "_law_unfold"]
theorem fin_law {prog : Program} {w : World} {s₁ : Shared} {h₁ : Heap} {L fa wl : Addr} {code : Value} {vs : List Value} {ns : List Int} {fd0 fd : FuncData} {body : List Stmt} {A : Around} {env : Env} {R : Flow → Shared → Prop} {E : Value → Shared → Prop} {g tk d os}
    (FN : FnIn (KK w.params) 556 fd0 ["script"] lawLs lawGs body) (hfd : fd = { fd0 with code := code }) (henv : env = callEnv fd L fa)
    (KX : (KK w.params).In s₁.heap) (T : ∃ p loose mg mb, TopRead p loose mg mb s₁.heap) (hI : IntsAre vs ns) (hL : s₁.heap.IsList wl vs.toArray) (hz : ns.length ≤ 100) (hA : Rm A 100)
    (F : Fr s₁.heap L h₁ fun x => List.lookup x [("script", Value.ref wl)]) (hLe : L = s₁.heap.objs.size) (hg : g = #[]) (ho : os = s₁.os)
    (hR : ∀ s' : Shared, (∀ b o, s₁.heap.get? b = some o → s'.heap.get? b = some o) → s'.gens = #[] → s'.os = s₁.os → R (.ret (.bool true)) s') :
    wpAny (model prog w) A (execs body env) R E { heap := h₁, gens := g, drawn := d, toks := tk, os := os } := by
  subst henv hLe ho hg
  have I : IsG ⟨prog, w, s₁.heap, KK w.params, s₁.os⟩ := ⟨rfl, ⟨KX, T⟩⟩
  have N : NmOk fd ((["script"] : List Str) ++ lawLs) lawGs := by subst hfd; exact ⟨FN.nm.eq, FN.nm.nd⟩
  have lo : 2 ≤ s₁.heap.objs.size := by
    obtain ⟨oc, od, osl, h⟩ := FN.look
    have h2 : 556 < s₁.heap.objs.size := Heap.lt_size (KX _ _ h)
    exact Nat.le_trans (by decide) (Nat.le_of_lt h2)
  refine to_goal (X := ⟨⟨prog, w, s₁.heap, KK w.params, s₁.os⟩, fd, s₁.heap.objs.size, fa, A, 100⟩) (law_xs I FN (wl := wl) (ns := ns) (fun σ => .base hL (IntsAre.vrs hI)) hz ⟨⟨prog, w, s₁.heap, KK w.params, s₁.os⟩, fd, s₁.heap.objs.size, fa, A, 100⟩ rfl rfl N.lcs N.gbs) (St.pad _ (start_at (s₁ := { s₁ with gens := #[], drawn := d }) ⟨I.g, hA, ?_, ?_, ?_, ?_, lo⟩ rfl rfl N.names (List.nodup_cons.mp N.nd).2 F.keep F.ns rfl rfl)) hR
  · subst hfd; exact FN.kind
  · subst hfd; exact FN.glob
  · subst hfd; exact FN.blt
  · subst hfd; exact FN.clo
end Mine
open PySem PySem.W PyProof.Rows
set_option maxHeartbeats 8000000 in
theorem PySem.Challenge.cw_rh0093_01_holds : PySem.Challenge.rw_rh0093_01.Holds := by
  w_on
  refine holds_law Mine.said0 fun said => ?_
  refine holds_open (q := view Mine.pw Mine.kp) (loose := Mine.lsN) (Xt := Mine.xtN) (XP := XL (view Mine.pw Mine.kp) Mine.lvN) (Yf := Mine.obsF) (Ya := Mine.valF) (YP := InK Mine.KK) (d := Mine.lawD) (kwd := []) (N := 3600) Mine.left (InK.of Mine.asF_eq) InK.keeps (fun s e => xl_of s (Bool.and_eq_true_iff.mp e).1) XL.keeps Mine.hdef0 Mine.hp0 Mine.hk0 (fun s e => recFacts_of (Bool.and_eq_true_iff.mp e).2) rfl said Mine.ok0 Mine.bare0 ?hw ?hc
  case hw => w_witness2
  intro w s₀ s₁ mg mb G Y fa o pm cd doc dV kV ho hd hcd hD hmg hg args vals as hpre hlay hrd hwl hlo
  have KX : (Mine.KK w.params).In s₁.heap := Y
  have X := (Ground.X G).1
  have V := (Ground.X G).2
  refine Ground.open G ?_
  intro T B D TE TW
  try (refine guard_noD D (by decide +kernel) ?_; clear D)
  obtain ⟨_, _, M⟩ := bmod_of_top T
  have TA := at_of_top T
  try (obtain ⟨_, _, he, B0⟩ := based_of_top T rfl hmg ho hd; have he' : cd = _ := he; subst he'; clear he)
  clear hmg
  wrow_args hpre hlay hrd hwl hlo
  refine enter_call ?_
  w_top on
  try refine codeAny_mono ?_ (fun _ _ g => GoodW.toG g)
  have K0 := below_caller (Top.heap T)
  w_call any ho hd hcd hD T F
  clear hd TA
  k_drop
  have T := ‹Top _ _ _ _ _ _›
  have hI := ‹IntsAre _ _›
  have hL := ‹Heap.IsList _ _ _›
  have F := ‹Fr _ _ _ _›
  refine' Mine.fin_law ?fn rfl ?henv KX ⟨_, _, _, _, topRead_of T⟩ hI hL ?hz ?hA F rfl (by assumption) rfl ?hR
  case fn => exact ⟨⟨_, _, _, rfl⟩, rfl, rfl, rfl, rfl, rfl, rfl, by kernel_rfl, rfl, ⟨rfl, by decide +kernel⟩, by exact Mine.bindE (Mine.bind1 fun _ => rfl)⟩
  case henv => rfl
  case hz => omega
  case hA => exact ⟨(by decide : callerA.depth + 1 + 100 < recursionLimit), (by decide : callerA.units + 3 + 5 * 100 < cLine), rfl⟩
  case hR =>
    intro s' hk hg ho
    refine ⟨.inl ⟨_, _, _, rfl, raisesW_false ?r1, .bool true, ?r2, unshared_nil⟩, hk, ho, hg⟩
    case r1 => wrow_none_raised
    case r2 => wrow_post
