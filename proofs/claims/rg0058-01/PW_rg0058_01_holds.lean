import PyProof.Rows.All
import Wide.All
import OpenK.AllK
import Wide.FinOn
import KE.KLam
import Lean
import PySem.Challenge.RW_rg0058_01
set_option bootstrap.genMatcherCode false
set_option genSizeOf false
section
open PySem PySem.W PyProof.Rows
set_option Elab.async false
set_option maxRecDepth 100000
set_option maxHeartbeats 0
namespace Mine
noncomputable abbrev pw : Program := PySem.Challenge.pw_rg0058_01
/-- the run of the top over a tree of objects, as the model's own steps go -/
noncomputable def runT (p : Program) (w : World) (n₀ : Nat) (ann : Option Value) : Nat → SharedT → Thread → Option SharedT
  | 0, _, _ => none
  | n + 1, s, t => match through t with
    | true => some s
    | false => match stepOk n₀ ann t with
      | false => none
      | true => match stepT (denote treeTable) p w s t with
        | some r => runT p w n₀ ann n r.1 r.2
        | none => none
theorem runT_2 (p : Program) (w : World) (n₀ : Nat) (ann : Option Value) (n s t) : runT p w n₀ ann (n + 1) s t = (match through t with
    | true => some s
    | false => match stepOk n₀ ann t with
      | false => none
      | true => match stepT (denote treeTable) p w s t with
        | some r => runT p w n₀ ann n r.1 r.2
        | none => none : Option SharedT) := rfl
theorem runT_spec {p : Program} {w : World} {n₀ : Nat} {ann : Option Value} : ∀ {n : Nat} {s r : SharedT} {t : Thread}, runT p w n₀ ann n s t = some r → topRun treeTable p w n₀ ann n s.abs t = some r.abs
  | 0, _, _, _, h => by cases h
  | n + 1, s, r, t, h => by
    rw [runT_2] at h
    unfold topRun
    cases a : through t <;> rw [a] at h
    · cases b : stepOk n₀ ann t <;> rw [b] at h
      · cases h
      · cases c : stepT (denote treeTable) p w s t with
        | none => rw [c] at h; cases h
        | some x => rw [c] at h; rw [stepT_spec (s' := x.1) (t' := x.2) c]; exact runT_spec h
    · cases h; rfl
noncomputable def runQ (p : Program) (w : World) (n₀ : Nat) (ann : Option Value) : Nat → SharedT → Thread → Option SharedT
  | 0, _, _ => none
  | n + 1, s, t => match through t with
    | true => some s
    | false => match PySem.W.Fast.tw6613529449190102663 n₀ ann t with
      | false => none
      | true => match PySem.W.Fast.tw10156331382660048174 (PySem.W.Fast.tw11892475500146522536 PySem.W.Fast.tw14364793385576792824) p w s t with
        | some r => runQ p w n₀ ann n r.1 r.2
        | none => none
theorem runQ_2 (p : Program) (w : World) (n₀ : Nat) (ann : Option Value) (n s t) : runQ p w n₀ ann (n + 1) s t = (match through t with
    | true => some s
    | false => match PySem.W.Fast.tw6613529449190102663 n₀ ann t with
      | false => none
      | true => match PySem.W.Fast.tw10156331382660048174 (PySem.W.Fast.tw11892475500146522536 PySem.W.Fast.tw14364793385576792824) p w s t with
        | some r => runQ p w n₀ ann n r.1 r.2
        | none => none : Option SharedT) := rfl
theorem run_fast {p : Program} {w : World} {n₀ : Nat} {ann : Option Value} : ∀ (n : Nat) (s : SharedT) (t : Thread), runT p w n₀ ann n s t = runQ p w n₀ ann n s t
  | 0, _, _ => rfl
  | n + 1, s, t => by
    rw [runT_2, runQ_2]
    rw [← PySem.W.Fast.te6613529449190102663, ← PySem.W.Fast.te10156331382660048174, ← PySem.W.Fast.te11892475500146522536, ← PySem.W.Fast.te14364793385576792824]
    cases through t
    · cases stepOk n₀ ann t
      · rfl
      · dsimp only
        cases stepT (denote treeTable) p w s t with
        | none => rfl
        | some r => exact run_fast n r.1 r.2
    · rfl
noncomputable def btOf : Nat → List Obj → BT → BT
  | _, [], T => T
  | i, o :: r, T => btOf (i + 1) r (T.ins i o)
noncomputable def boot (P : Params) : BT := btOf 0 (boot_heap P).objs.toList .nil
end Mine
end

section
open PySem PySem.W PyProof.Rows
set_option Elab.async false
set_option maxRecDepth 100000
set_option maxHeartbeats 0
namespace Mine
/-- the names of the text that stand loose: all but the law's -/
noncomputable def loose : List Str := (["AdaError", "CheckFault", "AdaRaise", "SCALAR_KINDS", "Type", "Subtype", "int_type", "numbered", "same_type", "is_scalar", "is_numeric", "whole_subtype", "MOST_PRIVATE", "full_subtype", "full_type", "Unset", "UNSET", "Cell", "CellMaker", "ArrayValue", "RecordValue", "is_unset", "need_set", "copy_value", "kept_value", "lengths_of", "slice_items", "fields_with", "read_place", "write_place", "OTHERS", "raise_constraint", "dim_length", "check_lengths", "slide_array", "check_index_ranges", "MOST_LINE", "type_line", "covers_choice", "chosen_alternative", "variant_parts", "ahead_of_variant", "present_parts", "variant_names", "part_names", "discs_in", "check_discs", "same_discs", "assign_record", "ancestor_view", "is_in_line", "own_part", "refuse", "bounds_of", "in_bounds", "is_member", "check_range", "check_base", "check_inner", "rounded_quotient", "cut_toward_zero", "small_of", "converted", "convert_to", "line_head", "check_line", "index_ranges", "fixed_bounds", "array_fitted", "record_fitted", "passed_value", "fit_value", "record_converted", "real_converted", "check_bases", "conv_value", "is_mutable", "store_checked", "Frame", "Run", "frame_at", "frame_of_type", "held_at", "told_value", "laid_type", "laid_subtype", "named_subtype", "range_elaborated", "check_disc_values", "elaborated", "goes_in", "held_subtype", "lay_formal", "lay_formals", "hold_actuals", "copy_back", "ProtectedThing", "FRESH", "TaskThing", "_law_sorts", "_law_modes", "_law_haul", "_law_subtypes", "_law_value", "_law_seen", "_law_due", "_law_word"] : List String).map Str.ofString
noncomputable def qv : Program := view pw [122]
noncomputable def lookAt {α : Type} (p q : Program) (loose : List Str) (Xt : Shared → Bool) (Yf : Shared → α) (H : Heap) (s : Shared) :=
  ((staticsOk (importedModules p.main.body) H s.heap && namesBound p s.heap && gensDone s && laidKept H s.heap), openSeen q loose (importedModules p.main.body) Xt true s, Yf s)
theorem left_of {p q : Program} {loose : List Str} {Xt : Shared → Bool} {α : Type} {Yf : Shared → α} {Ya : World → α} {N n₀ k₀ : Nat} {ann : Option Value} {T₀ : Params → BT} {H₀ : Params → Heap} {d₀ : Drawn}
    (open_ : ∀ w : World, (fencedOpening treeTable p w N).map (fun s => (s.heap, s.gens, s.drawn, s.toks)) = some (H₀ w.params, #[], d₀, k₀))
    (abs_ : ∀ P, absHeap (T₀ P) n₀ (H₀ P).life = H₀ P) (is_ : ∀ P, ((H₀ P).isNs mainGlobals, (H₀ P).objs.size, (H₀ P).nsMap mainGlobals "__annotations__") = (true, n₀, ann))
    (big : ∀ w : World, (fun os => (runQ p w n₀ ann N ⟨T₀ w.params, n₀, (H₀ w.params).life, #[], d₀, k₀, os⟩ (topStub p)).map (fun S => lookAt p q loose Xt Yf (H₀ w.params) S.abs)) = fun _ => some (true, openGood q loose, Ya w)) :
    LeftO p q loose Xt Yf Ya N := fun w => by
  obtain ⟨⟨h₀, gs, d, k, os⟩, e, e'⟩ := Option.map_eq_some_iff.mp (open_ w)
  obtain ⟨rfl, rfl, rfl, rfl⟩ : h₀ = H₀ w.params ∧ gs = #[] ∧ d = d₀ ∧ k = k₀ := by simpa using e'
  obtain ⟨S, r, x⟩ := Option.map_eq_some_iff.mp (congrFun (big w) os)
  have r' := runT_spec ((run_fast _ _ _).trans r)
  obtain ⟨b1, b2, b3⟩ : _ ∧ _ ∧ _ := by simpa only [Prod.mk.injEq] using is_ w.params
  obtain ⟨x1, x2, x3⟩ : _ ∧ _ ∧ _ := by simpa only [lookAt, Prod.mk.injEq] using x
  have a : SharedT.abs ⟨T₀ w.params, n₀, (H₀ w.params).life, #[], d, k, os⟩ = ⟨H₀ w.params, #[], d, k, os⟩ := by
    show (⟨absHeap _ _ _, _, _, _, _⟩ : Shared) = _
    rw [abs_]
  rw [a] at r'
  have t : topFrom treeTable p w N ⟨H₀ w.params, #[], d, k, os⟩ = some S.abs := by
    unfold topFrom
    dsimp only
    rw [b1, b2, b3, r']
    show (match staticsOk (importedModules p.main.body) (H₀ w.params) S.abs.heap && namesBound p S.abs.heap && gensDone S.abs && laidKept (H₀ w.params) S.abs.heap with | true => _ | false => _) = _
    rw [x1]
  unfold openEnds
  rw [e]
  show (topFrom treeTable p w N _).map _ = _
  rw [t]
  exact congrArg some (Prod.ext x2 x3)
theorem boot_abs (P : Params) : absHeap (boot P) 11 (boot_heap P).life = boot_heap P := by kernel_rfl
theorem boot_is (P : Params) : ((boot_heap P).isNs mainGlobals, (boot_heap P).objs.size, (boot_heap P).nsMap mainGlobals "__annotations__") = (true, 11, some (.ref 6)) := by kernel_rfl
theorem opening_is : opening pw = plainProg pw.main.scope.names := by kernel_rfl
theorem fence_is (s : Shared) : fenceModules? pw s = some s := by kernel_rfl
theorem opens : ∀ w : World, (fencedOpening treeTable pw w 13000).map (fun s => (s.heap, s.gens, s.drawn, s.toks)) = some (boot_heap w.params, #[], boot_drawn, boot_toks) := boot_open opening_is (by decide) fence_is
noncomputable def Xt (s : Shared) : Bool := xlAt qv [] s && recOk [] s
end Mine
end

section
open PySem PySem.W PyProof.Rows
set_option Elab.async false
set_option maxRecDepth 100000
set_option maxHeartbeats 0
set_option linter.unusedVariables false
namespace Mine
noncomputable def nthS : List Stmt → Nat → Stmt
  | [], _ => .Pass default
  | s :: _, 0 => s
  | _ :: r, n + 1 => nthS r n
noncomputable def st (i : Nat) : Stmt := nthS pw.main.body i
noncomputable def mt (i j : Nat) : Stmt := match st i with | .ClassDef _ _ _ b _ _ _ _ _ _ _ => nthS b j | _ => .Pass default
noncomputable def en (P : Params) (k : String) (t : Nat) (v : Value) : DictEntry := ⟨PyData.keyHash P (Str.ofString k), .str (Str.ofString k) t, v⟩
noncomputable def fo (s : Stmt) (q : String) (dV kV doc pm cd ct : Value) : Obj := match s with
  | .FunctionDef n ps b _ _ _ sc _ _ _ => { cls := .type "function", data := .func { name := n, qualname := Str.ofString q, params := ps, body := .stmts b, scope := sc, globals := 3, closure := [], defaults := dV, kwdefaults := kV, doc := doc, pyModule := pm, code := cd, closureTuple := ct } }
  | _ => default
noncomputable def o0 (P : Params) : Obj := { cls := (.type "dict"), dict := none, data := .dict [en P "__name__" 1 (.str (Str.ofString "builtins") 160), en P "__doc__" 2 (.builtin "builtins.__doc__:str#opaque"), en P "__package__" 3 (.builtin "builtins.__package__:str#opaque"), en P "__loader__" 4 (.builtin "builtins.__loader__:shared#opaque"), en P "__spec__" 5 (.builtin "builtins.__spec__#opaque"), en P "__build_class__" 6 (.builtin "__build_class__"), en P "__import__" 7 (.builtin "__import__"), en P "abs" 8 (.builtin "abs"), en P "all" 9 (.builtin "all"), en P "any" 10 (.builtin "any"), en P "ascii" 11 (.builtin "ascii"), en P "bin" 12 (.builtin "bin"), en P "breakpoint" 13 (.builtin "breakpoint"), en P "callable" 14 (.builtin "callable"), en P "chr" 15 (.builtin "chr"), en P "compile" 16 (.builtin "compile"), en P "delattr" 17 (.builtin "delattr"), en P "dir" 18 (.builtin "dir"), en P "divmod" 19 (.builtin "divmod"), en P "eval" 20 (.builtin "eval"), en P "exec" 21 (.builtin "exec"), en P "format" 22 (.builtin "format"), en P "getattr" 23 (.builtin "getattr"), en P "globals" 24 (.builtin "globals"), en P "hasattr" 25 (.builtin "hasattr"), en P "hash" 26 (.builtin "hash"), en P "hex" 27 (.builtin "hex"), en P "id" 28 (.builtin "id"), en P "input" 29 (.builtin "input"), en P "isinstance" 30 (.builtin "isinstance"), en P "issubclass" 31 (.builtin "issubclass"), en P "iter" 32 (.builtin "iter"), en P "aiter" 33 (.builtin "aiter"), en P "len" 34 (.builtin "len"), en P "locals" 35 (.builtin "locals"), en P "max" 36 (.builtin "max"), en P "min" 37 (.builtin "min"), en P "next" 38 (.builtin "next"), en P "anext" 39 (.builtin "anext"), en P "oct" 40 (.builtin "oct"), en P "ord" 41 (.builtin "ord"), en P "pow" 42 (.builtin "pow"), en P "print" 43 (.builtin "print"), en P "repr" 44 (.builtin "repr"), en P "round" 45 (.builtin "round"), en P "setattr" 46 (.builtin "setattr"), en P "sorted" 47 (.builtin "sorted"), en P "sum" 48 (.builtin "sum"), en P "vars" 49 (.builtin "vars"), en P "None" 50 .none, en P "Ellipsis" 51 .ellipsis, en P "NotImplemented" 52 .notImplemented, en P "False" 53 (.bool false), en P "True" 54 (.bool true), en P "bool" 55 (.type "bool"), en P "memoryview" 56 (.type "memoryview"), en P "bytearray" 57 (.type "bytearray"), en P "bytes" 58 (.type "bytes"), en P "classmethod" 59 (.type "classmethod"), en P "complex" 60 (.type "complex"), en P "dict" 61 (.type "dict"), en P "enumerate" 62 (.type "enumerate"), en P "filter" 63 (.type "filter"), en P "float" 64 (.type "float"), en P "frozenset" 65 (.type "frozenset"), en P "property" 66 (.type "property"), en P "int" 67 (.type "int"), en P "list" 68 (.type "list"), en P "map" 69 (.type "map"), en P "object" 70 (.type "object"), en P "range" 71 (.type "range"), en P "reversed" 72 (.type "reversed"), en P "set" 73 (.type "set"), en P "slice" 74 (.type "slice"), en P "staticmethod" 75 (.type "staticmethod"), en P "str" 76 (.type "str"), en P "super" 77 (.type "super"), en P "tuple" 78 (.type "tuple"), en P "type" 79 (.type "type"), en P "zip" 80 (.type "zip"), en P "__debug__" 81 (.bool true), en P "BaseException" 82 (.type "BaseException"), en P "BaseExceptionGroup" 83 (.type "BaseExceptionGroup"), en P "Exception" 84 (.type "Exception"), en P "GeneratorExit" 85 (.type "GeneratorExit"), en P "KeyboardInterrupt" 86 (.type "KeyboardInterrupt"), en P "SystemExit" 87 (.type "SystemExit"), en P "ArithmeticError" 88 (.type "ArithmeticError"), en P "AssertionError" 89 (.type "AssertionError"), en P "AttributeError" 90 (.type "AttributeError"), en P "BufferError" 91 (.type "BufferError"), en P "EOFError" 92 (.type "EOFError"), en P "ImportError" 93 (.type "ImportError"), en P "LookupError" 94 (.type "LookupError"), en P "MemoryError" 95 (.type "MemoryError"), en P "NameError" 96 (.type "NameError"), en P "OSError" 97 (.type "OSError"), en P "ReferenceError" 98 (.type "ReferenceError"), en P "RuntimeError" 99 (.type "RuntimeError"), en P "StopAsyncIteration" 100 (.type "StopAsyncIteration"), en P "StopIteration" 101 (.type "StopIteration"), en P "SyntaxError" 102 (.type "SyntaxError"), en P "SystemError" 103 (.type "SystemError"), en P "TypeError" 104 (.type "TypeError"), en P "ValueError" 105 (.type "ValueError"), en P "Warning" 106 (.type "Warning"), en P "FloatingPointError" 107 (.type "FloatingPointError"), en P "OverflowError" 108 (.type "OverflowError"), en P "ZeroDivisionError" 109 (.type "ZeroDivisionError"), en P "BytesWarning" 110 (.type "BytesWarning"), en P "DeprecationWarning" 111 (.type "DeprecationWarning"), en P "EncodingWarning" 112 (.type "EncodingWarning"), en P "FutureWarning" 113 (.type "FutureWarning"), en P "ImportWarning" 114 (.type "ImportWarning"), en P "PendingDeprecationWarning" 115 (.type "PendingDeprecationWarning"), en P "ResourceWarning" 116 (.type "ResourceWarning"), en P "RuntimeWarning" 117 (.type "RuntimeWarning"), en P "SyntaxWarning" 118 (.type "SyntaxWarning"), en P "UnicodeWarning" 119 (.type "UnicodeWarning"), en P "UserWarning" 120 (.type "UserWarning"), en P "BlockingIOError" 121 (.type "BlockingIOError"), en P "ChildProcessError" 122 (.type "ChildProcessError"), en P "ConnectionError" 123 (.type "ConnectionError"), en P "FileExistsError" 124 (.type "FileExistsError"), en P "FileNotFoundError" 125 (.type "FileNotFoundError"), en P "InterruptedError" 126 (.type "InterruptedError"), en P "IsADirectoryError" 127 (.type "IsADirectoryError"), en P "NotADirectoryError" 128 (.type "NotADirectoryError"), en P "PermissionError" 129 (.type "PermissionError"), en P "ProcessLookupError" 130 (.type "ProcessLookupError"), en P "TimeoutError" 131 (.type "TimeoutError"), en P "IndentationError" 132 (.type "IndentationError"), en P "_IncompleteInputError" 133 (.type "_IncompleteInputError"), en P "IndexError" 134 (.type "IndexError"), en P "KeyError" 135 (.type "KeyError"), en P "ModuleNotFoundError" 136 (.type "ModuleNotFoundError"), en P "NotImplementedError" 137 (.type "NotImplementedError"), en P "PythonFinalizationError" 138 (.type "PythonFinalizationError"), en P "RecursionError" 139 (.type "RecursionError"), en P "UnboundLocalError" 140 (.type "UnboundLocalError"), en P "UnicodeError" 141 (.type "UnicodeError"), en P "BrokenPipeError" 142 (.type "BrokenPipeError"), en P "ConnectionAbortedError" 143 (.type "ConnectionAbortedError"), en P "ConnectionRefusedError" 144 (.type "ConnectionRefusedError"), en P "ConnectionResetError" 145 (.type "ConnectionResetError"), en P "TabError" 146 (.type "TabError"), en P "UnicodeDecodeError" 147 (.type "UnicodeDecodeError"), en P "UnicodeEncodeError" 148 (.type "UnicodeEncodeError"), en P "UnicodeTranslateError" 149 (.type "UnicodeTranslateError"), en P "ExceptionGroup" 150 (.type "ExceptionGroup"), en P "EnvironmentError" 151 (.type "OSError"), en P "IOError" 152 (.type "OSError"), en P "open" 153 (.builtin "open"), en P "quit" 154 (.builtin "builtins.quit#opaque"), en P "exit" 155 (.builtin "builtins.exit#opaque"), en P "copyright" 156 (.builtin "builtins.copyright#opaque"), en P "credits" 157 (.builtin "builtins.credits#opaque"), en P "license" 158 (.builtin "builtins.license#opaque"), en P "help" 159 (.builtin "builtins.help#opaque")].toArray 159, slots := #[] }
noncomputable def o2 (P : Params) : Obj := { cls := .none, dict := none, data := .dict [en P "type.__subclasses__.Exception.0" 214 (.int (31) 0), en P "type.__subclasses__.Exception.n" 215 (.int (1) 0)].toArray 2, slots := #[] }
noncomputable def o3 (P : Params) : Obj := { cls := (.type "dict"), dict := none, data := .dict [en P "__name__" 165 (.str (Str.ofString "law_rg0058_01") 1440), en P "__doc__" 166 .none, en P "__package__" 167 .none, en P "__loader__" 168 (.builtin "__main__.__loader__#opaque"), en P "__spec__" 169 .none, en P "__annotations__" 170 (.ref 6), en P "__builtins__" 171 (.ref 4), en P "__file__" 173 (.str (Str.ofString "/claim/cut.py") 172), en P "__cached__" 174 .none, en P "AdaError" 217 (.ref 31), en P "CheckFault" 243 (.ref 51), en P "AdaRaise" 272 (.ref 70), en P "SCALAR_KINDS" 280 (.ref 73), en P "Type" 333 (.ref 90), en P "Subtype" 364 (.ref 111), en P "int_type" 374 (.ref 122), en P "numbered" 382 (.ref 129), en P "same_type" 390 (.ref 136), en P "is_scalar" 397 (.ref 143), en P "is_numeric" 404 (.ref 150), en P "whole_subtype" 411 (.ref 157), en P "MOST_PRIVATE" 415 (.int (41) 414), en P "full_subtype" 424 (.ref 164), en P "full_type" 431 (.ref 171), en P "Unset" 461 (.ref 188), en P "UNSET" 466 (.ref 194), en P "Cell" 498 (.ref 212), en P "CellMaker" 534 (.ref 240), en P "ArrayValue" 565 (.ref 261), en P "RecordValue" 596 (.ref 282), en P "is_unset" 603 (.ref 293), en P "need_set" 610 (.ref 300), en P "copy_value" 616 (.ref 305), en P "kept_value" 627 (.ref 312), en P "lengths_of" 633 (.ref 317), en P "slice_items" 643 (.ref 324), en P "fields_with" 651 (.ref 331), en P "read_place" 657 (.ref 336), en P "write_place" 663 (.ref 341), en P "OTHERS" 667 (.str (Str.ofString "others") 666), en P "raise_constraint" 674 (.ref 348), en P "dim_length" 682 (.ref 355), en P "check_lengths" 688 (.ref 360), en P "slide_array" 694 (.ref 365), en P "check_index_ranges" 707 (.ref 372), en P "MOST_LINE" 711 (.int (40) 710), en P "type_line" 720 (.ref 379), en P "covers_choice" 730 (.ref 386), en P "chosen_alternative" 740 (.ref 393), en P "variant_parts" 751 (.ref 400), en P "ahead_of_variant" 758 (.ref 407), en P "present_parts" 767 (.ref 414), en P "variant_names" 773 (.ref 419), en P "part_names" 779 (.ref 424), en P "discs_in" 790 (.ref 431), en P "check_discs" 800 (.ref 438), en P "same_discs" 806 (.ref 443), en P "assign_record" 818 (.ref 450), en P "ancestor_view" 831 (.ref 457), en P "is_in_line" 839 (.ref 464), en P "own_part" 847 (.ref 471), en P "refuse" 856 (.ref 478), en P "bounds_of" 863 (.ref 485), en P "in_bounds" 872 (.ref 492), en P "is_member" 882 (.ref 499), en P "check_range" 890 (.ref 506), en P "check_base" 898 (.ref 513), en P "check_inner" 907 (.ref 520), en P "rounded_quotient" 916 (.ref 527), en P "cut_toward_zero" 925 (.ref 534), en P "small_of" 932 (.ref 541), en P "converted" 943 (.ref 548), en P "convert_to" 952 (.ref 555), en P "line_head" 961 (.ref 562), en P "check_line" 969 (.ref 569), en P "index_ranges" 975 (.ref 574), en P "fixed_bounds" 982 (.ref 581), en P "array_fitted" 991 (.ref 588), en P "record_fitted" 1000 (.ref 595), en P "passed_value" 1009 (.ref 602), en P "fit_value" 1018 (.ref 609), en P "record_converted" 1028 (.ref 616), en P "real_converted" 1038 (.ref 623), en P "check_bases" 1049 (.ref 630), en P "conv_value" 1059 (.ref 637), en P "is_mutable" 1067 (.ref 642), en P "store_checked" 1078 (.ref 649), en P "Frame" 1113 (.ref 666), en P "Run" 1173 (.ref 687), en P "frame_at" 1183 (.ref 698), en P "frame_of_type" 1192 (.ref 705), en P "held_at" 1202 (.ref 712), en P "told_value" 1212 (.ref 719), en P "laid_type" 1221 (.ref 726), en P "laid_subtype" 1227 (.ref 731), en P "named_subtype" 1236 (.ref 738), en P "range_elaborated" 1247 (.ref 745), en P "check_disc_values" 1260 (.ref 752), en P "elaborated" 1266 (.ref 757), en P "goes_in" 1277 (.ref 764), en P "held_subtype" 1283 (.ref 769), en P "lay_formal" 1299 (.ref 776), en P "lay_formals" 1312 (.ref 783), en P "hold_actuals" 1327 (.ref 790), en P "copy_back" 1338 (.ref 797), en P "ProtectedThing" 1379 (.ref 814), en P "FRESH" 1383 (.str (Str.ofString "fresh") 1382), en P "TaskThing" 1439 (.ref 835), en P "_law_sorts" 1447 (.ref 840), en P "_law_modes" 1451 (.ref 841), en P "_law_haul" 1459 (.ref 848), en P "_law_subtypes" 1471 (.ref 855), en P "_law_value" 1481 (.ref 862), en P "_law_seen" 1488 (.ref 869), en P "_law_due" 1497 (.ref 876), en P "_law_word" 1505 (.ref 883), en P "law" 1511 (.ref 888)].toArray 117, slots := #[] }
noncomputable def o27 (P : Params) : Obj := { cls := (.type "code"), dict := none, data := .fields [(.str (Str.ofString "__init__") 201), (.str (Str.ofString "AdaError.__init__") 202), (.str (Str.ofString "/claim/cut.py") 203), (.int (4) 0), (.int (2) 0), (.int (0) 0), (.int (0) 0), (.int (3) 0), (.ref 22), (.bool true), (.int (181) 0), (.ref 23), .none, (.ref 24), (.ref 25), (.ref 26), (.int (206) 0), (.int (4) 0), (.str (Str.ofString "/claim/cut.py") 207)].toArray, slots := #[] }
noncomputable def o28 (P : Params) : Obj := fo (mt 1 0) "AdaError.__init__" .none .none .none (.str (Str.ofString "adacore.errors") 187) (.ref 27) .none
noncomputable def o30 (P : Params) : Obj := { cls := (.type "dict"), dict := none, data := .dict [en P "__module__" 196 (.str (Str.ofString "adacore.errors") 187), en P "__firstlineno__" 200 (.int (2) 199), en P "__init__" 208 (.ref 28), en P "__static_attributes__" 210 (.ref 29), en P "__weakref__" 212 (.ref 32), en P "__doc__" 213 .none].toArray 3, slots := #[] }
noncomputable def o31 (P : Params) : Obj := { cls := (.type "type"), dict := none, data := .cls { name := Str.ofString "AdaError", bases := [(.type "Exception")], mro := [(.ref 31), (.type "Exception"), (.type "BaseException"), (.type "object")], ns := 30, qualname := Str.ofString "AdaError", hasDict := true, slotNames := [], subclasses := [(.ref 51), (.ref 70)], abstract := false, collection := none, hasDel := false }, slots := [(some (.ref 15)), none, (some (.str (Str.ofString "AdaError") 189)), (some (.str (Str.ofString "AdaError") 197)), (some (.builtin "Exception.__new__")), (some (.bool true))].toArray }
noncomputable def o32 (P : Params) : Obj := { cls := (.type "getset_descriptor"), dict := none, data := .fields [(.str (Str.ofString "__weakref__") 211), (.ref 31), (.builtin "ExceptionGroup.__weakref__"), .none].toArray, slots := #[] }
noncomputable def o66 (P : Params) : Obj := { cls := (.type "code"), dict := none, data := .fields [(.str (Str.ofString "__init__") 256), (.str (Str.ofString "AdaRaise.__init__") 257), (.str (Str.ofString "/claim/cut.py") 258), (.int (14) 0), (.int (4) 0), (.int (0) 0), (.int (0) 0), (.int (3) 0), (.ref 61), (.bool true), (.int (181) 0), (.ref 62), .none, (.ref 63), (.ref 64), (.ref 65), (.int (263) 0), (.int (14) 0), (.str (Str.ofString "/claim/cut.py") 264)].toArray, slots := #[] }
noncomputable def o67 (P : Params) : Obj := fo (mt 3 0) "AdaRaise.__init__" .none .none .none (.str (Str.ofString "adacore.errors") 187) (.ref 66) .none
noncomputable def o69 (P : Params) : Obj := { cls := (.type "dict"), dict := none, data := .dict [en P "__module__" 251 (.str (Str.ofString "adacore.errors") 187), en P "__firstlineno__" 255 (.int (12) 254), en P "__init__" 265 (.ref 67), en P "__static_attributes__" 269 (.ref 68), en P "__doc__" 270 .none].toArray 2, slots := #[] }
noncomputable def o70 (P : Params) : Obj := { cls := (.type "type"), dict := none, data := .cls { name := Str.ofString "AdaRaise", bases := [(.ref 31)], mro := [(.ref 70), (.ref 31), (.type "Exception"), (.type "BaseException"), (.type "object")], ns := 69, qualname := Str.ofString "AdaRaise", hasDict := true, slotNames := [], subclasses := [], abstract := false, collection := none, hasDel := false }, slots := [(some (.ref 54)), none, (some (.str (Str.ofString "AdaRaise") 244)), (some (.str (Str.ofString "AdaRaise") 252)), (some (.builtin "Exception.__new__")), (some (.bool true))].toArray }
noncomputable def o73 (P : Params) : Obj := { cls := (.type "tuple"), dict := none, data := .seq [(.str (Str.ofString "enum") 275), (.str (Str.ofString "int") 276), (.str (Str.ofString "mod") 277), (.str (Str.ofString "fixed") 278), (.str (Str.ofString "universal") 279)].toArray 0, slots := #[] }
noncomputable def o86 (P : Params) : Obj := { cls := (.type "code"), dict := none, data := .fields [(.str (Str.ofString "__init__") 293), (.str (Str.ofString "Type.__init__") 294), (.str (Str.ofString "/claim/cut.py") 295), (.int (23) 0), (.int (3) 0), (.int (0) 0), (.int (0) 0), (.int (3) 0), (.ref 81), (.bool true), (.int (181) 0), (.ref 82), .none, (.ref 83), (.ref 84), (.ref 85), (.int (299) 0), (.int (23) 0), (.str (Str.ofString "/claim/cut.py") 300)].toArray, slots := #[] }
noncomputable def o87 (P : Params) : Obj := fo (mt 6 0) "Type.__init__" .none .none .none (.str (Str.ofString "adacore.types") 273) (.ref 86) .none
noncomputable def o89 (P : Params) : Obj := { cls := (.type "dict"), dict := none, data := .dict [en P "__module__" 288 (.str (Str.ofString "adacore.types") 273), en P "__firstlineno__" 292 (.int (21) 291), en P "__init__" 301 (.ref 87), en P "__static_attributes__" 326 (.ref 88), en P "__dict__" 328 (.ref 91), en P "__weakref__" 330 (.ref 92), en P "__doc__" 331 .none].toArray 4, slots := #[] }
noncomputable def o90 (P : Params) : Obj := { cls := (.type "type"), dict := none, data := .cls { name := Str.ofString "Type", bases := [(.type "object")], mro := [(.ref 90), (.type "object")], ns := 89, qualname := Str.ofString "Type", hasDict := true, slotNames := [], subclasses := [], abstract := false, collection := none, hasDel := false }, slots := [none, none, (some (.str (Str.ofString "Type") 281)), (some (.str (Str.ofString "Type") 289)), (some (.builtin "object.__new__")), (some (.bool true))].toArray }
noncomputable def o91 (P : Params) : Obj := { cls := (.type "getset_descriptor"), dict := none, data := .fields [(.str (Str.ofString "__dict__") 327), (.ref 90), (.builtin "function.__dict__"), (.builtin "function.__dict__#set")].toArray, slots := #[] }
noncomputable def o92 (P : Params) : Obj := { cls := (.type "getset_descriptor"), dict := none, data := .fields [(.str (Str.ofString "__weakref__") 329), (.ref 90), (.builtin "ExceptionGroup.__weakref__"), .none].toArray, slots := #[] }
noncomputable def o107 (P : Params) : Obj := { cls := (.type "code"), dict := none, data := .fields [(.str (Str.ofString "__init__") 346), (.str (Str.ofString "Subtype.__init__") 347), (.str (Str.ofString "/claim/cut.py") 348), (.int (50) 0), (.int (3) 0), (.int (0) 0), (.int (0) 0), (.int (3) 0), (.ref 102), (.bool true), (.int (181) 0), (.ref 103), .none, (.ref 104), (.ref 105), (.ref 106), (.int (352) 0), (.int (50) 0), (.str (Str.ofString "/claim/cut.py") 353)].toArray, slots := #[] }
noncomputable def o108 (P : Params) : Obj := fo (mt 7 0) "Subtype.__init__" .none .none .none (.str (Str.ofString "adacore.types") 273) (.ref 107) .none
noncomputable def o110 (P : Params) : Obj := { cls := (.type "dict"), dict := none, data := .dict [en P "__module__" 341 (.str (Str.ofString "adacore.types") 273), en P "__firstlineno__" 345 (.int (48) 344), en P "__init__" 354 (.ref 108), en P "__static_attributes__" 357 (.ref 109), en P "__dict__" 359 (.ref 112), en P "__weakref__" 361 (.ref 113), en P "__doc__" 362 .none].toArray 4, slots := #[] }
noncomputable def o111 (P : Params) : Obj := { cls := (.type "type"), dict := none, data := .cls { name := Str.ofString "Subtype", bases := [(.type "object")], mro := [(.ref 111), (.type "object")], ns := 110, qualname := Str.ofString "Subtype", hasDict := true, slotNames := [], subclasses := [], abstract := false, collection := none, hasDel := false }, slots := [none, none, (some (.str (Str.ofString "Subtype") 334)), (some (.str (Str.ofString "Subtype") 342)), (some (.builtin "object.__new__")), (some (.bool true))].toArray }
noncomputable def o112 (P : Params) : Obj := { cls := (.type "getset_descriptor"), dict := none, data := .fields [(.str (Str.ofString "__dict__") 358), (.ref 111), (.builtin "function.__dict__"), (.builtin "function.__dict__#set")].toArray, slots := #[] }
noncomputable def o113 (P : Params) : Obj := { cls := (.type "getset_descriptor"), dict := none, data := .fields [(.str (Str.ofString "__weakref__") 360), (.ref 111), (.builtin "ExceptionGroup.__weakref__"), .none].toArray, slots := #[] }
noncomputable def o121 (P : Params) : Obj := { cls := (.type "code"), dict := none, data := .fields [(.str (Str.ofString "int_type") 365), (.str (Str.ofString "int_type") 366), (.str (Str.ofString "/claim/cut.py") 367), (.int (53) 0), (.int (3) 0), (.int (0) 0), (.int (0) 0), (.int (3) 0), (.ref 116), (.bool true), (.int (181) 0), (.ref 117), .none, (.ref 118), (.ref 119), (.ref 120), (.int (372) 0), (.int (53) 0), (.str (Str.ofString "/claim/cut.py") 373)].toArray, slots := #[] }
noncomputable def o122 (P : Params) : Obj := fo (st 8) "int_type" .none .none .none (.str (Str.ofString "adacore.types") 273) (.ref 121) .none
noncomputable def o128 (P : Params) : Obj := { cls := (.type "code"), dict := none, data := .fields [(.str (Str.ofString "numbered") 375), (.str (Str.ofString "numbered") 376), (.str (Str.ofString "/claim/cut.py") 377), (.int (58) 0), (.int (2) 0), (.int (0) 0), (.int (0) 0), (.int (3) 0), (.ref 123), (.bool true), (.int (181) 0), (.ref 124), .none, (.ref 125), (.ref 126), (.ref 127), (.int (380) 0), (.int (58) 0), (.str (Str.ofString "/claim/cut.py") 381)].toArray, slots := #[] }
noncomputable def o129 (P : Params) : Obj := fo (st 9) "numbered" .none .none .none (.str (Str.ofString "adacore.types") 273) (.ref 128) .none
noncomputable def o142 (P : Params) : Obj := { cls := (.type "code"), dict := none, data := .fields [(.str (Str.ofString "is_scalar") 391), (.str (Str.ofString "is_scalar") 392), (.str (Str.ofString "/claim/cut.py") 393), (.int (63) 0), (.int (1) 0), (.int (0) 0), (.int (0) 0), (.int (3) 0), (.ref 137), (.bool true), (.int (181) 0), (.ref 138), .none, (.ref 139), (.ref 140), (.ref 141), (.int (395) 0), (.int (63) 0), (.str (Str.ofString "/claim/cut.py") 396)].toArray, slots := #[] }
noncomputable def o143 (P : Params) : Obj := fo (st 11) "is_scalar" .none .none .none (.str (Str.ofString "adacore.types") 273) (.ref 142) .none
noncomputable def o156 (P : Params) : Obj := { cls := (.type "code"), dict := none, data := .fields [(.str (Str.ofString "whole_subtype") 405), (.str (Str.ofString "whole_subtype") 406), (.str (Str.ofString "/claim/cut.py") 407), (.int (67) 0), (.int (1) 0), (.int (0) 0), (.int (0) 0), (.int (3) 0), (.ref 151), (.bool true), (.int (181) 0), (.ref 152), .none, (.ref 153), (.ref 154), (.ref 155), (.int (409) 0), (.int (67) 0), (.str (Str.ofString "/claim/cut.py") 410)].toArray, slots := #[] }
noncomputable def o157 (P : Params) : Obj := fo (st 13) "whole_subtype" .none .none .none (.str (Str.ofString "adacore.types") 273) (.ref 156) .none
noncomputable def o163 (P : Params) : Obj := { cls := (.type "code"), dict := none, data := .fields [(.str (Str.ofString "full_subtype") 416), (.str (Str.ofString "full_subtype") 417), (.str (Str.ofString "/claim/cut.py") 418), (.int (71) 0), (.int (1) 0), (.int (0) 0), (.int (0) 0), (.int (3) 0), (.ref 158), (.bool true), (.int (181) 0), (.ref 159), .none, (.ref 160), (.ref 161), (.ref 162), (.int (422) 0), (.int (71) 0), (.str (Str.ofString "/claim/cut.py") 423)].toArray, slots := #[] }
noncomputable def o164 (P : Params) : Obj := fo (st 16) "full_subtype" .none .none .none (.str (Str.ofString "adacore.fulltypes") 412) (.ref 163) .none
noncomputable def o170 (P : Params) : Obj := { cls := (.type "code"), dict := none, data := .fields [(.str (Str.ofString "full_type") 425), (.str (Str.ofString "full_type") 426), (.str (Str.ofString "/claim/cut.py") 427), (.int (80) 0), (.int (1) 0), (.int (0) 0), (.int (0) 0), (.int (3) 0), (.ref 165), (.bool true), (.int (181) 0), (.ref 166), .none, (.ref 167), (.ref 168), (.ref 169), (.int (429) 0), (.int (80) 0), (.str (Str.ofString "/claim/cut.py") 430)].toArray, slots := #[] }
noncomputable def o171 (P : Params) : Obj := fo (st 17) "full_type" .none .none .none (.str (Str.ofString "adacore.fulltypes") 412) (.ref 170) .none
noncomputable def o184 (P : Params) : Obj := { cls := (.type "code"), dict := none, data := .fields [(.str (Str.ofString "__init__") 446), (.str (Str.ofString "Unset.__init__") 447), (.str (Str.ofString "/claim/cut.py") 448), (.int (87) 0), (.int (1) 0), (.int (0) 0), (.int (0) 0), (.int (3) 0), (.ref 179), (.bool true), (.int (181) 0), (.ref 180), .none, (.ref 181), (.ref 182), (.ref 183), (.int (450) 0), (.int (87) 0), (.str (Str.ofString "/claim/cut.py") 451)].toArray, slots := #[] }
noncomputable def o185 (P : Params) : Obj := fo (mt 19 0) "Unset.__init__" .none .none .none (.str (Str.ofString "adacore.values") 432) (.ref 184) .none
noncomputable def o187 (P : Params) : Obj := { cls := (.type "dict"), dict := none, data := .dict [en P "__module__" 441 (.str (Str.ofString "adacore.values") 432), en P "__firstlineno__" 445 (.int (85) 444), en P "__init__" 452 (.ref 185), en P "__static_attributes__" 454 (.ref 186), en P "__dict__" 456 (.ref 189), en P "__weakref__" 458 (.ref 190), en P "__doc__" 459 .none].toArray 4, slots := #[] }
noncomputable def o188 (P : Params) : Obj := { cls := (.type "type"), dict := none, data := .cls { name := Str.ofString "Unset", bases := [(.type "object")], mro := [(.ref 188), (.type "object")], ns := 187, qualname := Str.ofString "Unset", hasDict := true, slotNames := [], subclasses := [], abstract := false, collection := none, hasDel := false }, slots := [none, none, (some (.str (Str.ofString "Unset") 434)), (some (.str (Str.ofString "Unset") 442)), (some (.builtin "object.__new__")), (some (.bool true))].toArray }
noncomputable def o189 (P : Params) : Obj := { cls := (.type "getset_descriptor"), dict := none, data := .fields [(.str (Str.ofString "__dict__") 455), (.ref 188), (.builtin "function.__dict__"), (.builtin "function.__dict__#set")].toArray, slots := #[] }
noncomputable def o190 (P : Params) : Obj := { cls := (.type "getset_descriptor"), dict := none, data := .fields [(.str (Str.ofString "__weakref__") 457), (.ref 188), (.builtin "ExceptionGroup.__weakref__"), .none].toArray, slots := #[] }
noncomputable def o193 (P : Params) : Obj := { cls := (.type "dict"), dict := none, data := .dict [en P "text" 465 (.str (Str.ofString "unset") 463)].toArray 1, slots := #[] }
noncomputable def o194 (P : Params) : Obj := { cls := (.ref 188), dict := (some 193), data := .plain, slots := #[] }
noncomputable def o208 (P : Params) : Obj := { cls := (.type "code"), dict := none, data := .fields [(.str (Str.ofString "__init__") 479), (.str (Str.ofString "Cell.__init__") 480), (.str (Str.ofString "/claim/cut.py") 481), (.int (92) 0), (.int (3) 0), (.int (0) 0), (.int (0) 0), (.int (3) 0), (.ref 203), (.bool true), (.int (181) 0), (.ref 204), .none, (.ref 205), (.ref 206), (.ref 207), (.int (485) 0), (.int (92) 0), (.str (Str.ofString "/claim/cut.py") 486)].toArray, slots := #[] }
noncomputable def o209 (P : Params) : Obj := fo (mt 21 0) "Cell.__init__" .none .none .none (.str (Str.ofString "adacore.values") 432) (.ref 208) .none
noncomputable def o211 (P : Params) : Obj := { cls := (.type "dict"), dict := none, data := .dict [en P "__module__" 474 (.str (Str.ofString "adacore.values") 432), en P "__firstlineno__" 478 (.int (90) 477), en P "__init__" 487 (.ref 209), en P "__static_attributes__" 491 (.ref 210), en P "__dict__" 493 (.ref 213), en P "__weakref__" 495 (.ref 214), en P "__doc__" 496 .none].toArray 4, slots := #[] }
noncomputable def o212 (P : Params) : Obj := { cls := (.type "type"), dict := none, data := .cls { name := Str.ofString "Cell", bases := [(.type "object")], mro := [(.ref 212), (.type "object")], ns := 211, qualname := Str.ofString "Cell", hasDict := true, slotNames := [], subclasses := [], abstract := false, collection := none, hasDel := false }, slots := [none, none, (some (.str (Str.ofString "Cell") 467)), (some (.str (Str.ofString "Cell") 475)), (some (.builtin "object.__new__")), (some (.bool true))].toArray }
noncomputable def o213 (P : Params) : Obj := { cls := (.type "getset_descriptor"), dict := none, data := .fields [(.str (Str.ofString "__dict__") 492), (.ref 212), (.builtin "function.__dict__"), (.builtin "function.__dict__#set")].toArray, slots := #[] }
noncomputable def o214 (P : Params) : Obj := { cls := (.type "getset_descriptor"), dict := none, data := .fields [(.str (Str.ofString "__weakref__") 494), (.ref 212), (.builtin "ExceptionGroup.__weakref__"), .none].toArray, slots := #[] }
noncomputable def o229 (P : Params) : Obj := { cls := (.type "code"), dict := none, data := .fields [(.str (Str.ofString "__init__") 511), (.str (Str.ofString "CellMaker.__init__") 512), (.str (Str.ofString "/claim/cut.py") 513), (.int (98) 0), (.int (1) 0), (.int (0) 0), (.int (0) 0), (.int (3) 0), (.ref 224), (.bool true), (.int (181) 0), (.ref 225), .none, (.ref 226), (.ref 227), (.ref 228), (.int (515) 0), (.int (98) 0), (.str (Str.ofString "/claim/cut.py") 516)].toArray, slots := #[] }
noncomputable def o230 (P : Params) : Obj := fo (mt 22 0) "CellMaker.__init__" .none .none .none (.str (Str.ofString "adacore.values") 432) (.ref 229) .none
noncomputable def o236 (P : Params) : Obj := { cls := (.type "code"), dict := none, data := .fields [(.str (Str.ofString "make_cell") 518), (.str (Str.ofString "CellMaker.make_cell") 519), (.str (Str.ofString "/claim/cut.py") 520), (.int (101) 0), (.int (2) 0), (.int (0) 0), (.int (0) 0), (.int (3) 0), (.ref 231), (.bool true), (.int (181) 0), (.ref 232), .none, (.ref 233), (.ref 234), (.ref 235), (.int (523) 0), (.int (101) 0), (.str (Str.ofString "/claim/cut.py") 524)].toArray, slots := #[] }
noncomputable def o237 (P : Params) : Obj := fo (mt 22 1) "CellMaker.make_cell" .none .none .none (.str (Str.ofString "adacore.values") 432) (.ref 236) .none
noncomputable def o239 (P : Params) : Obj := { cls := (.type "dict"), dict := none, data := .dict [en P "__module__" 506 (.str (Str.ofString "adacore.values") 432), en P "__firstlineno__" 510 (.int (96) 509), en P "__init__" 517 (.ref 230), en P "make_cell" 525 (.ref 237), en P "__static_attributes__" 527 (.ref 238), en P "__dict__" 529 (.ref 241), en P "__weakref__" 531 (.ref 242), en P "__doc__" 532 .none].toArray 4, slots := #[] }
noncomputable def o240 (P : Params) : Obj := { cls := (.type "type"), dict := none, data := .cls { name := Str.ofString "CellMaker", bases := [(.type "object")], mro := [(.ref 240), (.type "object")], ns := 239, qualname := Str.ofString "CellMaker", hasDict := true, slotNames := [], subclasses := [], abstract := false, collection := none, hasDel := false }, slots := [none, none, (some (.str (Str.ofString "CellMaker") 499)), (some (.str (Str.ofString "CellMaker") 507)), (some (.builtin "object.__new__")), (some (.bool true))].toArray }
noncomputable def o241 (P : Params) : Obj := { cls := (.type "getset_descriptor"), dict := none, data := .fields [(.str (Str.ofString "__dict__") 528), (.ref 240), (.builtin "function.__dict__"), (.builtin "function.__dict__#set")].toArray, slots := #[] }
noncomputable def o242 (P : Params) : Obj := { cls := (.type "getset_descriptor"), dict := none, data := .fields [(.str (Str.ofString "__weakref__") 530), (.ref 240), (.builtin "ExceptionGroup.__weakref__"), .none].toArray, slots := #[] }
noncomputable def o257 (P : Params) : Obj := { cls := (.type "code"), dict := none, data := .fields [(.str (Str.ofString "__init__") 547), (.str (Str.ofString "ArrayValue.__init__") 548), (.str (Str.ofString "/claim/cut.py") 549), (.int (106) 0), (.int (3) 0), (.int (0) 0), (.int (0) 0), (.int (3) 0), (.ref 252), (.bool true), (.int (181) 0), (.ref 253), .none, (.ref 254), (.ref 255), (.ref 256), (.int (553) 0), (.int (106) 0), (.str (Str.ofString "/claim/cut.py") 554)].toArray, slots := #[] }
noncomputable def o258 (P : Params) : Obj := fo (mt 23 0) "ArrayValue.__init__" .none .none .none (.str (Str.ofString "adacore.values") 432) (.ref 257) .none
noncomputable def o260 (P : Params) : Obj := { cls := (.type "dict"), dict := none, data := .dict [en P "__module__" 542 (.str (Str.ofString "adacore.values") 432), en P "__firstlineno__" 546 (.int (104) 545), en P "__init__" 555 (.ref 258), en P "__static_attributes__" 558 (.ref 259), en P "__dict__" 560 (.ref 262), en P "__weakref__" 562 (.ref 263), en P "__doc__" 563 .none].toArray 4, slots := #[] }
noncomputable def o261 (P : Params) : Obj := { cls := (.type "type"), dict := none, data := .cls { name := Str.ofString "ArrayValue", bases := [(.type "object")], mro := [(.ref 261), (.type "object")], ns := 260, qualname := Str.ofString "ArrayValue", hasDict := true, slotNames := [], subclasses := [], abstract := false, collection := none, hasDel := false }, slots := [none, none, (some (.str (Str.ofString "ArrayValue") 535)), (some (.str (Str.ofString "ArrayValue") 543)), (some (.builtin "object.__new__")), (some (.bool true))].toArray }
noncomputable def o262 (P : Params) : Obj := { cls := (.type "getset_descriptor"), dict := none, data := .fields [(.str (Str.ofString "__dict__") 559), (.ref 261), (.builtin "function.__dict__"), (.builtin "function.__dict__#set")].toArray, slots := #[] }
noncomputable def o263 (P : Params) : Obj := { cls := (.type "getset_descriptor"), dict := none, data := .fields [(.str (Str.ofString "__weakref__") 561), (.ref 261), (.builtin "ExceptionGroup.__weakref__"), .none].toArray, slots := #[] }
noncomputable def o278 (P : Params) : Obj := { cls := (.type "code"), dict := none, data := .fields [(.str (Str.ofString "__init__") 578), (.str (Str.ofString "RecordValue.__init__") 579), (.str (Str.ofString "/claim/cut.py") 580), (.int (111) 0), (.int (3) 0), (.int (0) 0), (.int (0) 0), (.int (3) 0), (.ref 273), (.bool true), (.int (181) 0), (.ref 274), .none, (.ref 275), (.ref 276), (.ref 277), (.int (584) 0), (.int (111) 0), (.str (Str.ofString "/claim/cut.py") 585)].toArray, slots := #[] }
noncomputable def o279 (P : Params) : Obj := fo (mt 24 0) "RecordValue.__init__" .none .none .none (.str (Str.ofString "adacore.values") 432) (.ref 278) .none
noncomputable def o281 (P : Params) : Obj := { cls := (.type "dict"), dict := none, data := .dict [en P "__module__" 573 (.str (Str.ofString "adacore.values") 432), en P "__firstlineno__" 577 (.int (109) 576), en P "__init__" 586 (.ref 279), en P "__static_attributes__" 589 (.ref 280), en P "__dict__" 591 (.ref 283), en P "__weakref__" 593 (.ref 284), en P "__doc__" 594 .none].toArray 4, slots := #[] }
noncomputable def o282 (P : Params) : Obj := { cls := (.type "type"), dict := none, data := .cls { name := Str.ofString "RecordValue", bases := [(.type "object")], mro := [(.ref 282), (.type "object")], ns := 281, qualname := Str.ofString "RecordValue", hasDict := true, slotNames := [], subclasses := [], abstract := false, collection := none, hasDel := false }, slots := [none, none, (some (.str (Str.ofString "RecordValue") 566)), (some (.str (Str.ofString "RecordValue") 574)), (some (.builtin "object.__new__")), (some (.bool true))].toArray }
noncomputable def o283 (P : Params) : Obj := { cls := (.type "getset_descriptor"), dict := none, data := .fields [(.str (Str.ofString "__dict__") 590), (.ref 282), (.builtin "function.__dict__"), (.builtin "function.__dict__#set")].toArray, slots := #[] }
noncomputable def o284 (P : Params) : Obj := { cls := (.type "getset_descriptor"), dict := none, data := .fields [(.str (Str.ofString "__weakref__") 592), (.ref 282), (.builtin "ExceptionGroup.__weakref__"), .none].toArray, slots := #[] }
noncomputable def o292 (P : Params) : Obj := { cls := (.type "code"), dict := none, data := .fields [(.str (Str.ofString "is_unset") 597), (.str (Str.ofString "is_unset") 598), (.str (Str.ofString "/claim/cut.py") 599), (.int (114) 0), (.int (1) 0), (.int (0) 0), (.int (0) 0), (.int (3) 0), (.ref 287), (.bool true), (.int (181) 0), (.ref 288), .none, (.ref 289), (.ref 290), (.ref 291), (.int (601) 0), (.int (114) 0), (.str (Str.ofString "/claim/cut.py") 602)].toArray, slots := #[] }
noncomputable def o293 (P : Params) : Obj := fo (st 25) "is_unset" .none .none .none (.str (Str.ofString "adacore.values") 432) (.ref 292) .none
noncomputable def o304 (P : Params) : Obj := { cls := (.type "code"), dict := none, data := .fields [(.str (Str.ofString "copy_value") 611), (.str (Str.ofString "copy_value") 612), (.str (Str.ofString "/claim/cut.py") 613), (.int (120) 0), (.int (1) 0), (.int (0) 0), (.int (0) 0), (.int (3) 0), (.ref 301), (.bool true), (.int (181) 0), (.ref 302), .none, .none, .none, (.ref 303), (.int (614) 0), (.int (120) 0), (.str (Str.ofString "/claim/cut.py") 615)].toArray, slots := #[] }
noncomputable def o305 (P : Params) : Obj := fo (st 27) "copy_value" .none .none .none (.str (Str.ofString "adacore.values") 432) (.ref 304) .none
noncomputable def o340 (P : Params) : Obj := { cls := (.type "code"), dict := none, data := .fields [(.str (Str.ofString "write_place") 658), (.str (Str.ofString "write_place") 659), (.str (Str.ofString "/claim/cut.py") 660), (.int (163) 0), (.int (2) 0), (.int (0) 0), (.int (0) 0), (.int (3) 0), (.ref 337), (.bool true), (.int (181) 0), (.ref 338), .none, .none, .none, (.ref 339), (.int (661) 0), (.int (163) 0), (.str (Str.ofString "/claim/cut.py") 662)].toArray, slots := #[] }
noncomputable def o341 (P : Params) : Obj := fo (st 33) "write_place" .none .none .none (.str (Str.ofString "adacore.values") 432) (.ref 340) .none
noncomputable def o477 (P : Params) : Obj := { cls := (.type "code"), dict := none, data := .fields [(.str (Str.ofString "refuse") 850), (.str (Str.ofString "refuse") 851), (.str (Str.ofString "/claim/cut.py") 852), (.int (290) 0), (.int (1) 0), (.int (0) 0), (.int (0) 0), (.int (3) 0), (.ref 472), (.bool true), (.int (181) 0), (.ref 473), .none, (.ref 474), (.ref 475), (.ref 476), (.int (854) 0), (.int (290) 0), (.str (Str.ofString "/claim/cut.py") 855)].toArray, slots := #[] }
noncomputable def o478 (P : Params) : Obj := fo (st 59) "refuse" .none .none .none (.str (Str.ofString "adacore.scalars") 848) (.ref 477) .none
noncomputable def o484 (P : Params) : Obj := { cls := (.type "code"), dict := none, data := .fields [(.str (Str.ofString "bounds_of") 857), (.str (Str.ofString "bounds_of") 858), (.str (Str.ofString "/claim/cut.py") 859), (.int (292) 0), (.int (1) 0), (.int (0) 0), (.int (0) 0), (.int (3) 0), (.ref 479), (.bool true), (.int (181) 0), (.ref 480), .none, (.ref 481), (.ref 482), (.ref 483), (.int (861) 0), (.int (292) 0), (.str (Str.ofString "/claim/cut.py") 862)].toArray, slots := #[] }
noncomputable def o485 (P : Params) : Obj := fo (st 60) "bounds_of" .none .none .none (.str (Str.ofString "adacore.scalars") 848) (.ref 484) .none
noncomputable def o491 (P : Params) : Obj := { cls := (.type "code"), dict := none, data := .fields [(.str (Str.ofString "in_bounds") 864), (.str (Str.ofString "in_bounds") 865), (.str (Str.ofString "/claim/cut.py") 866), (.int (296) 0), (.int (3) 0), (.int (0) 0), (.int (0) 0), (.int (3) 0), (.ref 486), (.bool true), (.int (181) 0), (.ref 487), .none, (.ref 488), (.ref 489), (.ref 490), (.int (870) 0), (.int (296) 0), (.str (Str.ofString "/claim/cut.py") 871)].toArray, slots := #[] }
noncomputable def o492 (P : Params) : Obj := fo (st 61) "in_bounds" .none .none .none (.str (Str.ofString "adacore.scalars") 848) (.ref 491) .none
noncomputable def o498 (P : Params) : Obj := { cls := (.type "code"), dict := none, data := .fields [(.str (Str.ofString "is_member") 873), (.str (Str.ofString "is_member") 874), (.str (Str.ofString "/claim/cut.py") 875), (.int (298) 0), (.int (2) 0), (.int (0) 0), (.int (0) 0), (.int (3) 0), (.ref 493), (.bool true), (.int (181) 0), (.ref 494), .none, (.ref 495), (.ref 496), (.ref 497), (.int (880) 0), (.int (298) 0), (.str (Str.ofString "/claim/cut.py") 881)].toArray, slots := #[] }
noncomputable def o499 (P : Params) : Obj := fo (st 62) "is_member" .none .none .none (.str (Str.ofString "adacore.scalars") 848) (.ref 498) .none
noncomputable def o505 (P : Params) : Obj := { cls := (.type "code"), dict := none, data := .fields [(.str (Str.ofString "check_range") 883), (.str (Str.ofString "check_range") 884), (.str (Str.ofString "/claim/cut.py") 885), (.int (301) 0), (.int (2) 0), (.int (0) 0), (.int (0) 0), (.int (3) 0), (.ref 500), (.bool true), (.int (181) 0), (.ref 501), .none, (.ref 502), (.ref 503), (.ref 504), (.int (888) 0), (.int (301) 0), (.str (Str.ofString "/claim/cut.py") 889)].toArray, slots := #[] }
noncomputable def o506 (P : Params) : Obj := fo (st 63) "check_range" .none .none .none (.str (Str.ofString "adacore.scalars") 848) (.ref 505) .none
noncomputable def o519 (P : Params) : Obj := { cls := (.type "code"), dict := none, data := .fields [(.str (Str.ofString "check_inner") 899), (.str (Str.ofString "check_inner") 900), (.str (Str.ofString "/claim/cut.py") 901), (.int (309) 0), (.int (3) 0), (.int (0) 0), (.int (0) 0), (.int (3) 0), (.ref 514), (.bool true), (.int (181) 0), (.ref 515), .none, (.ref 516), (.ref 517), (.ref 518), (.int (905) 0), (.int (309) 0), (.str (Str.ofString "/claim/cut.py") 906)].toArray, slots := #[] }
noncomputable def o520 (P : Params) : Obj := fo (st 65) "check_inner" .none .none .none (.str (Str.ofString "adacore.scalars") 848) (.ref 519) .none
noncomputable def o601 (P : Params) : Obj := { cls := (.type "code"), dict := none, data := .fields [(.str (Str.ofString "passed_value") 1001), (.str (Str.ofString "passed_value") 1002), (.str (Str.ofString "/claim/cut.py") 1003), (.int (364) 0), (.int (2) 0), (.int (0) 0), (.int (0) 0), (.int (3) 0), (.ref 596), (.bool true), (.int (181) 0), (.ref 597), .none, (.ref 598), (.ref 599), (.ref 600), (.int (1007) 0), (.int (364) 0), (.str (Str.ofString "/claim/cut.py") 1008)].toArray, slots := #[] }
noncomputable def o602 (P : Params) : Obj := fo (st 78) "passed_value" .none .none .none (.str (Str.ofString "adacore.nodevalues") 953) (.ref 601) .none
noncomputable def o608 (P : Params) : Obj := { cls := (.type "code"), dict := none, data := .fields [(.str (Str.ofString "fit_value") 1010), (.str (Str.ofString "fit_value") 1011), (.str (Str.ofString "/claim/cut.py") 1012), (.int (371) 0), (.int (2) 0), (.int (0) 0), (.int (0) 0), (.int (3) 0), (.ref 603), (.bool true), (.int (181) 0), (.ref 604), .none, (.ref 605), (.ref 606), (.ref 607), (.int (1016) 0), (.int (371) 0), (.str (Str.ofString "/claim/cut.py") 1017)].toArray, slots := #[] }
noncomputable def o609 (P : Params) : Obj := fo (st 79) "fit_value" .none .none .none (.str (Str.ofString "adacore.nodevalues") 953) (.ref 608) .none
noncomputable def o648 (P : Params) : Obj := { cls := (.type "code"), dict := none, data := .fields [(.str (Str.ofString "store_checked") 1068), (.str (Str.ofString "store_checked") 1069), (.str (Str.ofString "/claim/cut.py") 1070), (.int (427) 0), (.int (3) 0), (.int (0) 0), (.int (0) 0), (.int (3) 0), (.ref 643), (.bool true), (.int (181) 0), (.ref 644), .none, (.ref 645), (.ref 646), (.ref 647), (.int (1076) 0), (.int (427) 0), (.str (Str.ofString "/claim/cut.py") 1077)].toArray, slots := #[] }
noncomputable def o649 (P : Params) : Obj := fo (st 86) "store_checked" .none .none .none (.str (Str.ofString "adacore.runplaces") 1060) (.ref 648) .none
noncomputable def o662 (P : Params) : Obj := { cls := (.type "code"), dict := none, data := .fields [(.str (Str.ofString "__init__") 1093), (.str (Str.ofString "Frame.__init__") 1094), (.str (Str.ofString "/claim/cut.py") 1095), (.int (445) 0), (.int (3) 0), (.int (0) 0), (.int (0) 0), (.int (3) 0), (.ref 657), (.bool true), (.int (181) 0), (.ref 658), .none, (.ref 659), (.ref 660), (.ref 661), (.int (1099) 0), (.int (445) 0), (.str (Str.ofString "/claim/cut.py") 1100)].toArray, slots := #[] }
noncomputable def o663 (P : Params) : Obj := fo (mt 88 0) "Frame.__init__" .none .none .none (.str (Str.ofString "adacore.frames") 1079) (.ref 662) .none
noncomputable def o665 (P : Params) : Obj := { cls := (.type "dict"), dict := none, data := .dict [en P "__module__" 1088 (.str (Str.ofString "adacore.frames") 1079), en P "__firstlineno__" 1092 (.int (443) 1091), en P "__init__" 1101 (.ref 663), en P "__static_attributes__" 1106 (.ref 664), en P "__dict__" 1108 (.ref 667), en P "__weakref__" 1110 (.ref 668), en P "__doc__" 1111 .none].toArray 4, slots := #[] }
noncomputable def o666 (P : Params) : Obj := { cls := (.type "type"), dict := none, data := .cls { name := Str.ofString "Frame", bases := [(.type "object")], mro := [(.ref 666), (.type "object")], ns := 665, qualname := Str.ofString "Frame", hasDict := true, slotNames := [], subclasses := [], abstract := false, collection := none, hasDel := false }, slots := [none, none, (some (.str (Str.ofString "Frame") 1081)), (some (.str (Str.ofString "Frame") 1089)), (some (.builtin "object.__new__")), (some (.bool true))].toArray }
noncomputable def o667 (P : Params) : Obj := { cls := (.type "getset_descriptor"), dict := none, data := .fields [(.str (Str.ofString "__dict__") 1107), (.ref 666), (.builtin "function.__dict__"), (.builtin "function.__dict__#set")].toArray, slots := #[] }
noncomputable def o668 (P : Params) : Obj := { cls := (.type "getset_descriptor"), dict := none, data := .fields [(.str (Str.ofString "__weakref__") 1109), (.ref 666), (.builtin "ExceptionGroup.__weakref__"), .none].toArray, slots := #[] }
noncomputable def o683 (P : Params) : Obj := { cls := (.type "code"), dict := none, data := .fields [(.str (Str.ofString "__init__") 1126), (.str (Str.ofString "Run.__init__") 1127), (.str (Str.ofString "/claim/cut.py") 1128), (.int (452) 0), (.int (3) 0), (.int (0) 0), (.int (0) 0), (.int (3) 0), (.ref 678), (.bool true), (.int (181) 0), (.ref 679), .none, (.ref 680), (.ref 681), (.ref 682), (.int (1132) 0), (.int (452) 0), (.str (Str.ofString "/claim/cut.py") 1133)].toArray, slots := #[] }
noncomputable def o684 (P : Params) : Obj := fo (mt 89 0) "Run.__init__" .none .none .none (.str (Str.ofString "adacore.frames") 1079) (.ref 683) .none
noncomputable def o686 (P : Params) : Obj := { cls := (.type "dict"), dict := none, data := .dict [en P "__module__" 1121 (.str (Str.ofString "adacore.frames") 1079), en P "__firstlineno__" 1125 (.int (450) 1124), en P "__init__" 1134 (.ref 684), en P "__static_attributes__" 1166 (.ref 685), en P "__dict__" 1168 (.ref 688), en P "__weakref__" 1170 (.ref 689), en P "__doc__" 1171 .none].toArray 4, slots := #[] }
noncomputable def o687 (P : Params) : Obj := { cls := (.type "type"), dict := none, data := .cls { name := Str.ofString "Run", bases := [(.type "object")], mro := [(.ref 687), (.type "object")], ns := 686, qualname := Str.ofString "Run", hasDict := true, slotNames := [], subclasses := [], abstract := false, collection := none, hasDel := false }, slots := [none, none, (some (.str (Str.ofString "Run") 1114)), (some (.str (Str.ofString "Run") 1122)), (some (.builtin "object.__new__")), (some (.bool true))].toArray }
noncomputable def o688 (P : Params) : Obj := { cls := (.type "getset_descriptor"), dict := none, data := .fields [(.str (Str.ofString "__dict__") 1167), (.ref 687), (.builtin "function.__dict__"), (.builtin "function.__dict__#set")].toArray, slots := #[] }
noncomputable def o689 (P : Params) : Obj := { cls := (.type "getset_descriptor"), dict := none, data := .fields [(.str (Str.ofString "__weakref__") 1169), (.ref 687), (.builtin "ExceptionGroup.__weakref__"), .none].toArray, slots := #[] }
noncomputable def o718 (P : Params) : Obj := { cls := (.type "code"), dict := none, data := .fields [(.str (Str.ofString "told_value") 1205), (.str (Str.ofString "told_value") 1206), (.str (Str.ofString "/claim/cut.py") 1207), (.int (500) 0), (.int (2) 0), (.int (0) 0), (.int (0) 0), (.int (3) 0), (.ref 713), (.bool true), (.int (181) 0), (.ref 714), .none, (.ref 715), (.ref 716), (.ref 717), (.int (1210) 0), (.int (500) 0), (.str (Str.ofString "/claim/cut.py") 1211)].toArray, slots := #[] }
noncomputable def o719 (P : Params) : Obj := fo (st 94) "told_value" .none .none .none (.str (Str.ofString "adacore.subtypes") 1203) (.ref 718) .none
noncomputable def o730 (P : Params) : Obj := { cls := (.type "code"), dict := none, data := .fields [(.str (Str.ofString "laid_subtype") 1222), (.str (Str.ofString "laid_subtype") 1223), (.str (Str.ofString "/claim/cut.py") 1224), (.int (511) 0), (.int (2) 0), (.int (0) 0), (.int (0) 0), (.int (3) 0), (.ref 727), (.bool true), (.int (181) 0), (.ref 728), .none, .none, .none, (.ref 729), (.int (1225) 0), (.int (511) 0), (.str (Str.ofString "/claim/cut.py") 1226)].toArray, slots := #[] }
noncomputable def o731 (P : Params) : Obj := fo (st 96) "laid_subtype" .none .none .none (.str (Str.ofString "adacore.subtypes") 1203) (.ref 730) .none
noncomputable def o744 (P : Params) : Obj := { cls := (.type "code"), dict := none, data := .fields [(.str (Str.ofString "range_elaborated") 1237), (.str (Str.ofString "range_elaborated") 1238), (.str (Str.ofString "/claim/cut.py") 1239), (.int (525) 0), (.int (2) 0), (.int (0) 0), (.int (0) 0), (.int (3) 0), (.ref 739), (.bool true), (.int (181) 0), (.ref 740), .none, (.ref 741), (.ref 742), (.ref 743), (.int (1245) 0), (.int (525) 0), (.str (Str.ofString "/claim/cut.py") 1246)].toArray, slots := #[] }
noncomputable def o745 (P : Params) : Obj := fo (st 98) "range_elaborated" .none .none .none (.str (Str.ofString "adacore.subtypes") 1203) (.ref 744) .none
noncomputable def o756 (P : Params) : Obj := { cls := (.type "code"), dict := none, data := .fields [(.str (Str.ofString "elaborated") 1261), (.str (Str.ofString "elaborated") 1262), (.str (Str.ofString "/claim/cut.py") 1263), (.int (538) 0), (.int (2) 0), (.int (0) 0), (.int (0) 0), (.int (3) 0), (.ref 753), (.bool true), (.int (181) 0), (.ref 754), .none, .none, .none, (.ref 755), (.int (1264) 0), (.int (538) 0), (.str (Str.ofString "/claim/cut.py") 1265)].toArray, slots := #[] }
noncomputable def o757 (P : Params) : Obj := fo (st 100) "elaborated" .none .none .none (.str (Str.ofString "adacore.subtypes") 1203) (.ref 756) .none
noncomputable def o763 (P : Params) : Obj := { cls := (.type "code"), dict := none, data := .fields [(.str (Str.ofString "goes_in") 1269), (.str (Str.ofString "goes_in") 1270), (.str (Str.ofString "/claim/cut.py") 1271), (.int (558) 0), (.int (3) 0), (.int (0) 0), (.int (0) 0), (.int (3) 0), (.ref 758), (.bool true), (.int (181) 0), (.ref 759), .none, (.ref 760), (.ref 761), (.ref 762), (.int (1275) 0), (.int (558) 0), (.str (Str.ofString "/claim/cut.py") 1276)].toArray, slots := #[] }
noncomputable def o764 (P : Params) : Obj := fo (st 102) "goes_in" .none .none .none (.str (Str.ofString "adacore.runcalls") 1267) (.ref 763) .none
noncomputable def o768 (P : Params) : Obj := { cls := (.type "code"), dict := none, data := .fields [(.str (Str.ofString "held_subtype") 1278), (.str (Str.ofString "held_subtype") 1279), (.str (Str.ofString "/claim/cut.py") 1280), (.int (560) 0), (.int (2) 0), (.int (0) 0), (.int (0) 0), (.int (3) 0), (.ref 765), (.bool true), (.int (181) 0), (.ref 766), .none, .none, .none, (.ref 767), (.int (1281) 0), (.int (560) 0), (.str (Str.ofString "/claim/cut.py") 1282)].toArray, slots := #[] }
noncomputable def o769 (P : Params) : Obj := fo (st 103) "held_subtype" .none .none .none (.str (Str.ofString "adacore.runcalls") 1267) (.ref 768) .none
noncomputable def o775 (P : Params) : Obj := { cls := (.type "code"), dict := none, data := .fields [(.str (Str.ofString "lay_formal") 1284), (.str (Str.ofString "lay_formal") 1285), (.str (Str.ofString "/claim/cut.py") 1286), (.int (565) 0), (.int (4) 0), (.int (0) 0), (.int (0) 0), (.int (3) 0), (.ref 770), (.bool true), (.int (181) 0), (.ref 771), .none, (.ref 772), (.ref 773), (.ref 774), (.int (1297) 0), (.int (565) 0), (.str (Str.ofString "/claim/cut.py") 1298)].toArray, slots := #[] }
noncomputable def o776 (P : Params) : Obj := fo (st 104) "lay_formal" .none .none .none (.str (Str.ofString "adacore.runcalls") 1267) (.ref 775) .none
noncomputable def o782 (P : Params) : Obj := { cls := (.type "code"), dict := none, data := .fields [(.str (Str.ofString "lay_formals") 1300), (.str (Str.ofString "lay_formals") 1301), (.str (Str.ofString "/claim/cut.py") 1302), (.int (574) 0), (.int (4) 0), (.int (0) 0), (.int (0) 0), (.int (3) 0), (.ref 777), (.bool true), (.int (181) 0), (.ref 778), .none, (.ref 779), (.ref 780), (.ref 781), (.int (1310) 0), (.int (574) 0), (.str (Str.ofString "/claim/cut.py") 1311)].toArray, slots := #[] }
noncomputable def o783 (P : Params) : Obj := fo (st 105) "lay_formals" .none .none .none (.str (Str.ofString "adacore.runcalls") 1267) (.ref 782) .none
noncomputable def o789 (P : Params) : Obj := { cls := (.type "code"), dict := none, data := .fields [(.str (Str.ofString "hold_actuals") 1313), (.str (Str.ofString "hold_actuals") 1314), (.str (Str.ofString "/claim/cut.py") 1315), (.int (581) 0), (.int (3) 0), (.int (0) 0), (.int (0) 0), (.int (3) 0), (.ref 784), (.bool true), (.int (181) 0), (.ref 785), .none, (.ref 786), (.ref 787), (.ref 788), (.int (1325) 0), (.int (581) 0), (.str (Str.ofString "/claim/cut.py") 1326)].toArray, slots := #[] }
noncomputable def o790 (P : Params) : Obj := fo (st 106) "hold_actuals" .none .none .none (.str (Str.ofString "adacore.runcalls") 1267) (.ref 789) .none
noncomputable def o796 (P : Params) : Obj := { cls := (.type "code"), dict := none, data := .fields [(.str (Str.ofString "copy_back") 1328), (.str (Str.ofString "copy_back") 1329), (.str (Str.ofString "/claim/cut.py") 1330), (.int (587) 0), (.int (2) 0), (.int (0) 0), (.int (0) 0), (.int (3) 0), (.ref 791), (.bool true), (.int (181) 0), (.ref 792), .none, (.ref 793), (.ref 794), (.ref 795), (.int (1336) 0), (.int (587) 0), (.str (Str.ofString "/claim/cut.py") 1337)].toArray, slots := #[] }
noncomputable def o797 (P : Params) : Obj := fo (st 107) "copy_back" .none .none .none (.str (Str.ofString "adacore.runcalls") 1267) (.ref 796) .none
noncomputable def o810 (P : Params) : Obj := { cls := (.type "code"), dict := none, data := .fields [(.str (Str.ofString "__init__") 1353), (.str (Str.ofString "ProtectedThing.__init__") 1354), (.str (Str.ofString "/claim/cut.py") 1355), (.int (594) 0), (.int (3) 0), (.int (0) 0), (.int (0) 0), (.int (3) 0), (.ref 805), (.bool true), (.int (181) 0), (.ref 806), .none, (.ref 807), (.ref 808), (.ref 809), (.int (1359) 0), (.int (594) 0), (.str (Str.ofString "/claim/cut.py") 1360)].toArray, slots := #[] }
noncomputable def o811 (P : Params) : Obj := fo (mt 109 0) "ProtectedThing.__init__" .none .none .none (.str (Str.ofString "adacore.protected") 1339) (.ref 810) .none
noncomputable def o813 (P : Params) : Obj := { cls := (.type "dict"), dict := none, data := .dict [en P "__module__" 1348 (.str (Str.ofString "adacore.protected") 1339), en P "__firstlineno__" 1352 (.int (592) 1351), en P "__init__" 1361 (.ref 811), en P "__static_attributes__" 1372 (.ref 812), en P "__dict__" 1374 (.ref 815), en P "__weakref__" 1376 (.ref 816), en P "__doc__" 1377 .none].toArray 4, slots := #[] }
noncomputable def o814 (P : Params) : Obj := { cls := (.type "type"), dict := none, data := .cls { name := Str.ofString "ProtectedThing", bases := [(.type "object")], mro := [(.ref 814), (.type "object")], ns := 813, qualname := Str.ofString "ProtectedThing", hasDict := true, slotNames := [], subclasses := [], abstract := false, collection := none, hasDel := false }, slots := [none, none, (some (.str (Str.ofString "ProtectedThing") 1341)), (some (.str (Str.ofString "ProtectedThing") 1349)), (some (.builtin "object.__new__")), (some (.bool true))].toArray }
noncomputable def o815 (P : Params) : Obj := { cls := (.type "getset_descriptor"), dict := none, data := .fields [(.str (Str.ofString "__dict__") 1373), (.ref 814), (.builtin "function.__dict__"), (.builtin "function.__dict__#set")].toArray, slots := #[] }
noncomputable def o816 (P : Params) : Obj := { cls := (.type "getset_descriptor"), dict := none, data := .fields [(.str (Str.ofString "__weakref__") 1375), (.ref 814), (.builtin "ExceptionGroup.__weakref__"), .none].toArray, slots := #[] }
noncomputable def o831 (P : Params) : Obj := { cls := (.type "code"), dict := none, data := .fields [(.str (Str.ofString "__init__") 1396), (.str (Str.ofString "TaskThing.__init__") 1397), (.str (Str.ofString "/claim/cut.py") 1398), (.int (609) 0), (.int (4) 0), (.int (0) 0), (.int (0) 0), (.int (3) 0), (.ref 826), (.bool true), (.int (181) 0), (.ref 827), .none, (.ref 828), (.ref 829), (.ref 830), (.int (1403) 0), (.int (609) 0), (.str (Str.ofString "/claim/cut.py") 1404)].toArray, slots := #[] }
noncomputable def o832 (P : Params) : Obj := fo (mt 112 0) "TaskThing.__init__" .none .none .none (.str (Str.ofString "adacore.rendezvous") 1380) (.ref 831) .none
noncomputable def o834 (P : Params) : Obj := { cls := (.type "dict"), dict := none, data := .dict [en P "__module__" 1391 (.str (Str.ofString "adacore.rendezvous") 1380), en P "__firstlineno__" 1395 (.int (607) 1394), en P "__init__" 1405 (.ref 832), en P "__static_attributes__" 1432 (.ref 833), en P "__dict__" 1434 (.ref 836), en P "__weakref__" 1436 (.ref 837), en P "__doc__" 1437 .none].toArray 4, slots := #[] }
noncomputable def o835 (P : Params) : Obj := { cls := (.type "type"), dict := none, data := .cls { name := Str.ofString "TaskThing", bases := [(.type "object")], mro := [(.ref 835), (.type "object")], ns := 834, qualname := Str.ofString "TaskThing", hasDict := true, slotNames := [], subclasses := [], abstract := false, collection := none, hasDel := false }, slots := [none, none, (some (.str (Str.ofString "TaskThing") 1384)), (some (.str (Str.ofString "TaskThing") 1392)), (some (.builtin "object.__new__")), (some (.bool true))].toArray }
noncomputable def o836 (P : Params) : Obj := { cls := (.type "getset_descriptor"), dict := none, data := .fields [(.str (Str.ofString "__dict__") 1433), (.ref 835), (.builtin "function.__dict__"), (.builtin "function.__dict__#set")].toArray, slots := #[] }
noncomputable def o837 (P : Params) : Obj := { cls := (.type "getset_descriptor"), dict := none, data := .fields [(.str (Str.ofString "__weakref__") 1435), (.ref 835), (.builtin "ExceptionGroup.__weakref__"), .none].toArray, slots := #[] }
noncomputable def o840 (P : Params) : Obj := { cls := (.type "tuple"), dict := none, data := .seq [(.str (Str.ofString "n") 1442), (.str (Str.ofString "hidden n") 1443), (.str (Str.ofString "work") 1444), (.str (Str.ofString "hidden work") 1445), (.str (Str.ofString "guard") 1446)].toArray 0, slots := #[] }
noncomputable def o841 (P : Params) : Obj := { cls := (.type "tuple"), dict := none, data := .seq [(.str (Str.ofString "in") 1448), (.str (Str.ofString "out") 1449), (.str (Str.ofString "inout") 1450)].toArray 0, slots := #[] }
noncomputable def o847 (P : Params) : Obj := { cls := (.type "code"), dict := none, data := .fields [(.str (Str.ofString "_law_haul") 1452), (.str (Str.ofString "_law_haul") 1453), (.str (Str.ofString "/claim/cut.py") 1454), (.int (639) 0), (.int (2) 0), (.int (0) 0), (.int (0) 0), (.int (3) 0), (.ref 842), (.bool true), (.int (181) 0), (.ref 843), .none, (.ref 844), (.ref 845), (.ref 846), (.int (1457) 0), (.int (639) 0), (.str (Str.ofString "/claim/cut.py") 1458)].toArray, slots := #[] }
noncomputable def o848 (P : Params) : Obj := fo (st 116) "_law_haul" .none .none .none (.str (Str.ofString "law_rg0058_01") 1440) (.ref 847) .none
noncomputable def o854 (P : Params) : Obj := { cls := (.type "code"), dict := none, data := .fields [(.str (Str.ofString "_law_subtypes") 1460), (.str (Str.ofString "_law_subtypes") 1461), (.str (Str.ofString "/claim/cut.py") 1462), (.int (642) 0), (.int (0) 0), (.int (0) 0), (.int (0) 0), (.int (3) 0), (.ref 849), (.bool true), (.int (181) 0), (.ref 850), .none, (.ref 851), (.ref 852), (.ref 853), (.int (1469) 0), (.int (642) 0), (.str (Str.ofString "/claim/cut.py") 1470)].toArray, slots := #[] }
noncomputable def o855 (P : Params) : Obj := fo (st 117) "_law_subtypes" .none .none .none (.str (Str.ofString "law_rg0058_01") 1440) (.ref 854) .none
noncomputable def o861 (P : Params) : Obj := { cls := (.type "code"), dict := none, data := .fields [(.str (Str.ofString "_law_value") 1472), (.str (Str.ofString "_law_value") 1473), (.str (Str.ofString "/claim/cut.py") 1474), (.int (649) 0), (.int (3) 0), (.int (0) 0), (.int (0) 0), (.int (3) 0), (.ref 856), (.bool true), (.int (181) 0), (.ref 857), .none, (.ref 858), (.ref 859), (.ref 860), (.int (1479) 0), (.int (649) 0), (.str (Str.ofString "/claim/cut.py") 1480)].toArray, slots := #[] }
noncomputable def o862 (P : Params) : Obj := fo (st 118) "_law_value" .none .none .none (.str (Str.ofString "law_rg0058_01") 1440) (.ref 861) .none
noncomputable def o868 (P : Params) : Obj := { cls := (.type "code"), dict := none, data := .fields [(.str (Str.ofString "_law_seen") 1482), (.str (Str.ofString "_law_seen") 1483), (.str (Str.ofString "/claim/cut.py") 1484), (.int (656) 0), (.int (1) 0), (.int (0) 0), (.int (0) 0), (.int (3) 0), (.ref 863), (.bool true), (.int (181) 0), (.ref 864), .none, (.ref 865), (.ref 866), (.ref 867), (.int (1486) 0), (.int (656) 0), (.str (Str.ofString "/claim/cut.py") 1487)].toArray, slots := #[] }
noncomputable def o869 (P : Params) : Obj := fo (st 119) "_law_seen" .none .none .none (.str (Str.ofString "law_rg0058_01") 1440) (.ref 868) .none
noncomputable def o875 (P : Params) : Obj := { cls := (.type "code"), dict := none, data := .fields [(.str (Str.ofString "_law_due") 1489), (.str (Str.ofString "_law_due") 1490), (.str (Str.ofString "/claim/cut.py") 1491), (.int (662) 0), (.int (3) 0), (.int (0) 0), (.int (0) 0), (.int (3) 0), (.ref 870), (.bool true), (.int (181) 0), (.ref 871), .none, (.ref 872), (.ref 873), (.ref 874), (.int (1495) 0), (.int (662) 0), (.str (Str.ofString "/claim/cut.py") 1496)].toArray, slots := #[] }
noncomputable def o876 (P : Params) : Obj := fo (st 120) "_law_due" .none .none .none (.str (Str.ofString "law_rg0058_01") 1440) (.ref 875) .none
noncomputable def o882 (P : Params) : Obj := { cls := (.type "code"), dict := none, data := .fields [(.str (Str.ofString "_law_word") 1498), (.str (Str.ofString "_law_word") 1499), (.str (Str.ofString "/claim/cut.py") 1500), (.int (668) 0), (.int (1) 0), (.int (0) 0), (.int (0) 0), (.int (3) 0), (.ref 877), (.bool true), (.int (181) 0), (.ref 878), .none, (.ref 879), (.ref 880), (.ref 881), (.int (1503) 0), (.int (668) 0), (.str (Str.ofString "/claim/cut.py") 1504)].toArray, slots := #[] }
noncomputable def o883 (P : Params) : Obj := fo (st 121) "_law_word" .none .none .none (.str (Str.ofString "law_rg0058_01") 1440) (.ref 882) .none
noncomputable def o887 (P : Params) : Obj := { cls := (.type "code"), dict := none, data := .fields [(.str (Str.ofString "law") 1506), (.str (Str.ofString "law") 1507), (.str (Str.ofString "/claim/cut.py") 1508), (.int (674) 0), (.int (1) 0), (.int (0) 0), (.int (0) 0), (.int (3) 0), (.ref 884), (.bool true), (.int (181) 0), (.ref 885), .none, .none, .none, (.ref 886), (.int (1509) 0), (.int (674) 0), (.str (Str.ofString "/claim/cut.py") 1510)].toArray, slots := #[] }
noncomputable def o888 (P : Params) : Obj := fo (st 122) "law" .none .none .none (.str (Str.ofString "law_rg0058_01") 1440) (.ref 887) .none
noncomputable def kf : Params → Frag := fun P => (nat_lit 0, o0 P) :: (nat_lit 2, o2 P) :: (nat_lit 3, o3 P) :: (nat_lit 27, o27 P) :: (nat_lit 28, o28 P) :: (nat_lit 30, o30 P) :: (nat_lit 31, o31 P) :: (nat_lit 32, o32 P) :: (nat_lit 66, o66 P) :: (nat_lit 67, o67 P) :: (nat_lit 69, o69 P) :: (nat_lit 70, o70 P) :: (nat_lit 73, o73 P) :: (nat_lit 86, o86 P) :: (nat_lit 87, o87 P) :: (nat_lit 89, o89 P) :: (nat_lit 90, o90 P) :: (nat_lit 91, o91 P) :: (nat_lit 92, o92 P) :: (nat_lit 107, o107 P) :: (nat_lit 108, o108 P) :: (nat_lit 110, o110 P) :: (nat_lit 111, o111 P) :: (nat_lit 112, o112 P) :: (nat_lit 113, o113 P) :: (nat_lit 121, o121 P) :: (nat_lit 122, o122 P) :: (nat_lit 128, o128 P) :: (nat_lit 129, o129 P) :: (nat_lit 142, o142 P) :: (nat_lit 143, o143 P) :: (nat_lit 156, o156 P) :: (nat_lit 157, o157 P) :: (nat_lit 163, o163 P) :: (nat_lit 164, o164 P) :: (nat_lit 170, o170 P) :: (nat_lit 171, o171 P) :: (nat_lit 184, o184 P) :: (nat_lit 185, o185 P) :: (nat_lit 187, o187 P) :: (nat_lit 188, o188 P) :: (nat_lit 189, o189 P) :: (nat_lit 190, o190 P) :: (nat_lit 193, o193 P) :: (nat_lit 194, o194 P) :: (nat_lit 208, o208 P) :: (nat_lit 209, o209 P) :: (nat_lit 211, o211 P) :: (nat_lit 212, o212 P) :: (nat_lit 213, o213 P) :: (nat_lit 214, o214 P) :: (nat_lit 229, o229 P) :: (nat_lit 230, o230 P) :: (nat_lit 236, o236 P) :: (nat_lit 237, o237 P) :: (nat_lit 239, o239 P) :: (nat_lit 240, o240 P) :: (nat_lit 241, o241 P) :: (nat_lit 242, o242 P) :: (nat_lit 257, o257 P) :: (nat_lit 258, o258 P) :: (nat_lit 260, o260 P) :: (nat_lit 261, o261 P) :: (nat_lit 262, o262 P) :: (nat_lit 263, o263 P) :: (nat_lit 278, o278 P) :: (nat_lit 279, o279 P) :: (nat_lit 281, o281 P) :: (nat_lit 282, o282 P) :: (nat_lit 283, o283 P) :: (nat_lit 284, o284 P) :: (nat_lit 292, o292 P) :: (nat_lit 293, o293 P) :: (nat_lit 304, o304 P) :: (nat_lit 305, o305 P) :: (nat_lit 340, o340 P) :: (nat_lit 341, o341 P) :: (nat_lit 477, o477 P) :: (nat_lit 478, o478 P) :: (nat_lit 484, o484 P) :: (nat_lit 485, o485 P) :: (nat_lit 491, o491 P) :: (nat_lit 492, o492 P) :: (nat_lit 498, o498 P) :: (nat_lit 499, o499 P) :: (nat_lit 505, o505 P) :: (nat_lit 506, o506 P) :: (nat_lit 519, o519 P) :: (nat_lit 520, o520 P) :: (nat_lit 601, o601 P) :: (nat_lit 602, o602 P) :: (nat_lit 608, o608 P) :: (nat_lit 609, o609 P) :: (nat_lit 648, o648 P) :: (nat_lit 649, o649 P) :: (nat_lit 662, o662 P) :: (nat_lit 663, o663 P) :: (nat_lit 665, o665 P) :: (nat_lit 666, o666 P) :: (nat_lit 667, o667 P) :: (nat_lit 668, o668 P) :: (nat_lit 683, o683 P) :: (nat_lit 684, o684 P) :: (nat_lit 686, o686 P) :: (nat_lit 687, o687 P) :: (nat_lit 688, o688 P) :: (nat_lit 689, o689 P) :: (nat_lit 718, o718 P) :: (nat_lit 719, o719 P) :: (nat_lit 730, o730 P) :: (nat_lit 731, o731 P) :: (nat_lit 744, o744 P) :: (nat_lit 745, o745 P) :: (nat_lit 756, o756 P) :: (nat_lit 757, o757 P) :: (nat_lit 763, o763 P) :: (nat_lit 764, o764 P) :: (nat_lit 768, o768 P) :: (nat_lit 769, o769 P) :: (nat_lit 775, o775 P) :: (nat_lit 776, o776 P) :: (nat_lit 782, o782 P) :: (nat_lit 783, o783 P) :: (nat_lit 789, o789 P) :: (nat_lit 790, o790 P) :: (nat_lit 796, o796 P) :: (nat_lit 797, o797 P) :: (nat_lit 810, o810 P) :: (nat_lit 811, o811 P) :: (nat_lit 813, o813 P) :: (nat_lit 814, o814 P) :: (nat_lit 815, o815 P) :: (nat_lit 816, o816 P) :: (nat_lit 831, o831 P) :: (nat_lit 832, o832 P) :: (nat_lit 834, o834 P) :: (nat_lit 835, o835 P) :: (nat_lit 836, o836 P) :: (nat_lit 837, o837 P) :: (nat_lit 840, o840 P) :: (nat_lit 841, o841 P) :: (nat_lit 847, o847 P) :: (nat_lit 848, o848 P) :: (nat_lit 854, o854 P) :: (nat_lit 855, o855 P) :: (nat_lit 861, o861 P) :: (nat_lit 862, o862 P) :: (nat_lit 868, o868 P) :: (nat_lit 869, o869 P) :: (nat_lit 875, o875 P) :: (nat_lit 876, o876 P) :: (nat_lit 882, o882 P) :: (nat_lit 883, o883 P) :: (nat_lit 887, o887 P) :: (nat_lit 888, o888 P) :: []
noncomputable def ka : List Addr := [0, 2, 3, 27, 28, 30, 31, 32, 66, 67, 69, 70, 73, 86, 87, 89, 90, 91, 92, 107, 108, 110, 111, 112, 113, 121, 122, 128, 129, 142, 143, 156, 157, 163, 164, 170, 171, 184, 185, 187, 188, 189, 190, 193, 194, 208, 209, 211, 212, 213, 214, 229, 230, 236, 237, 239, 240, 241, 242, 257, 258, 260, 261, 262, 263, 278, 279, 281, 282, 283, 284, 292, 293, 304, 305, 340, 341, 477, 478, 484, 485, 491, 492, 498, 499, 505, 506, 519, 520, 601, 602, 608, 609, 648, 649, 662, 663, 665, 666, 667, 668, 683, 684, 686, 687, 688, 689, 718, 719, 730, 731, 744, 745, 756, 757, 763, 764, 768, 769, 775, 776, 782, 783, 789, 790, 796, 797, 810, 811, 813, 814, 815, 816, 831, 832, 834, 835, 836, 837, 840, 841, 847, 848, 854, 855, 861, 862, 868, 869, 875, 876, 882, 883, 887, 888]
theorem ka_is (P : Params) : ka = (kf P).map (·.1) := by kernel_rfl
noncomputable def hk : Hook := kmHook kf ka ka_is [885]
end Mine
end

section
open PySem PySem.W PyProof.Rows
set_option Elab.async false
set_option maxRecDepth 100000
set_option maxHeartbeats 0
namespace Mine
theorem big : ∀ w : World, (fun os => (runQ pw w 11 (some (.ref 6)) 13000 ⟨boot w.params, 11, (boot_heap w.params).life, #[], boot_drawn, boot_toks, os⟩ (topStub pw)).map (fun S => lookAt pw qv loose Xt hk.obs (boot_heap w.params) S.abs)) = fun _ => some (true, openGood qv loose, hk.val w) := by
  intro w; kernel_rfl
theorem left : LeftO pw qv loose Xt hk.obs hk.val 13000 := left_of opens boot_abs boot_is big
end Mine
end

section
open PySem PySem.W PyProof.Rows
set_option Elab.async false
set_option maxRecDepth 100000
set_option maxHeartbeats 0
namespace Mine
theorem said_law : PySem.Challenge.rw_rg0058_01.wellSaid = true := by
  rw [PySem.W.Fast.te9446332074065402090]
  kernel_rfl
theorem ok_law : (chainsOk qv && opensWell PySem.Challenge.rw_rg0058_01.row.prog && (frees PySem.Challenge.rw_rg0058_01.row.toRowW && PySem.Challenge.rw_rg0058_01.row.toRowW.within.isEmpty)) = true := by kernel_rfl
theorem bare_law : PySem.Challenge.rw_rg0058_01.row.prog.bare := ⟨rfl, rfl, rfl, rfl, rfl, by decide +kernel⟩
theorem prom_law : PySem.Challenge.rw_rg0058_01.row.toRowW.promised := by w_witness2
end Mine
end

section
open PySem PySem.W PyProof.Rows
set_option Elab.async false
set_option maxRecDepth 100000
set_option maxHeartbeats 0
namespace Mine
noncomputable def lawD : DefRec := match st 122 with
  | .FunctionDef n ps b _ _ _ sc _ _ pos => ⟨n, ps, b, sc, pos⟩
  | _ => ⟨Str.ofString "", ⟨[], [], none, [], [], none, []⟩, [], ⟨.function, [], false, false, []⟩, default⟩
theorem def_law : defOf qv (Str.ofString "law") = some (lawD, []) := by kernel_rfl
theorem the_law : PySem.Challenge.rw_rg0058_01.row.prog.theDef PySem.Challenge.rw_rg0058_01.row.name = some (lawD.params, lawD.body, lawD.scope) := by kernel_rfl
theorem kw_law : kwWritten? lawD.params.kwonlyargs lawD.params.kw_defaults = some [] := by kernel_rfl
theorem head (h : WalkO qv loose (XL qv []) hk.says PySem.Challenge.rw_rg0058_01.row.toRowW lawD [] fun f vs => PySem.call f vs) : PySem.Challenge.rw_rg0058_01.Holds :=
  holds_law said_law fun said =>
    holds_open (q := qv) (loose := loose) (Xt := Xt) (XP := XL qv []) (Yf := hk.obs) (Ya := hk.val) (YP := hk.says) (N := 13000) left hk.of hk.keeps (fun s e => xl_of s (Bool.and_eq_true_iff.mp e).1) XL.keeps def_law the_law kw_law (fun s e => recFacts_nil rfl) rfl said ok_law bare_law prom_law h
end Mine
end

section
open PySem PySem.W
set_option linter.unusedVariables false
namespace Mine
/-- where an int stands against 0 .. 9 -/
inductive Cl | lo | inn | hi
noncomputable def clsOf (k : Int) : Cl := if k < 0 then .lo else if 9 < k then .hi else .inn
noncomputable def Cl.geZ : Cl → Bool | .lo => false | _ => true
noncomputable def Cl.leN : Cl → Bool | .hi => false | _ => true
inductive Bi | isinstance | len | excInit
inductive Ty | str | tuple | range | exc
noncomputable def Bi.nm : Bi → String | .isinstance => "isinstance" | .len => "len" | .excInit => "Exception.__init__"
noncomputable def Ty.nm : Ty → String | .str => "str" | .tuple => "tuple" | .range => "range" | .exc => "Exception"
inductive AV
  | none | bool (b : Bool) | int (k : Int) | str (s : Str) | id (i : Nat) | glob (a : Nat) | bi (n : Bi) | ty (n : Ty) | num (c : Cl) (k : Int) | dr (c : Cl) (k : Int)
inductive AO
  | inst (C d : Nat) | dict (fs : List (Str × AV)) | dct (fs : List (Str × AV)) | list (xs : List AV) | tup (xs : List AV) | cell (v : Option AV) | cart (l : Nat) (q : List (AV × Nat)) | opq | scr | exc (d : Option Nat) | rng (n : Nat) | itR (i n : Nat) | itL (l i : Nat)
  | ns (lc : List (Str × AV)) | ctab (l : List (Nat × Nat)) | code (q : Str) | fn (ps : Arguments) (body : FuncBody) (sc : Scope) (cl : List (Str × Nat)) (q : Str) (c : Nat)
structure AS where
  o : List (Nat × AO)
  n : Nat
/-- the object of an id, by the recursor at once: some times faster in the kernel -/
noncomputable def fnd (l : List (Nat × AO)) (j : Nat) : Option AO := List.rec (motive := fun _ => Option AO) .none (fun p _ ih => Bool.rec (motive := fun _ => Option AO) ih (some p.2) (Nat.beq p.1 j)) l
theorem fnd_nil (j : Nat) : fnd [] j = .none := rfl
theorem fnd_cons (p : Nat × AO) (l : List (Nat × AO)) (j : Nat) : fnd (p :: l) j = cond (Nat.beq p.1 j) (some p.2) (fnd l j) := by
  show Bool.rec (motive := fun _ => Option AO) (fnd l j) (some p.2) (Nat.beq p.1 j) = _
  cases Nat.beq p.1 j <;> rfl
noncomputable def AS.get (σ : AS) (i : Nat) : Option AO := match σ with
  | ⟨o, n⟩ => cond (Nat.blt i n) (fnd o i) .none
noncomputable def AS.put (σ : AS) (i : Nat) (a : AO) : AS := match σ with
  | ⟨o, n⟩ => ⟨(i, a) :: o, n⟩
noncomputable def AS.new (σ : AS) (a : AO) : AS := match σ with
  | ⟨o, n⟩ => ⟨(n, a) :: o, n + 1⟩
theorem AS.get_def (σ : AS) (i : Nat) : σ.get i = cond (Nat.blt i σ.n) (fnd σ.o i) .none := rfl
/-- the counter, by a match: so the ids are closed terms in the kernel, and reckoned at once -/
noncomputable def wn {α : Type} (σ : AS) (f : Nat → α) : α := match σ with
  | ⟨_, n⟩ => f n
theorem wn_eq {α : Type} (σ : AS) (f : Nat → α) : wn σ f = f σ.n := rfl
noncomputable def nlEq : List Nat → List Nat → Bool
  | [], [] => true
  | a :: r, b :: t => cond (Nat.beq a b) (nlEq r t) false
  | _, _ => false
theorem nlEq_1  : nlEq [] [] = (true : Bool) := rfl
theorem nlEq_2 (a r b t) : nlEq (a :: r) (b :: t) = (cond (Nat.beq a b) (nlEq r t) false : Bool) := rfl
noncomputable def sEq (a b : Str) : Bool := nlEq a.cps.toList b.cps.toList
noncomputable def lk {α : Type} : List (Str × α) → Str → Option α
  | [], _ => .none
  | (y, v) :: r, x => cond (sEq y x) (some v) (lk r x)
theorem lk_1 {α : Type} (w1) : lk [] w1 = (.none : Option α) := rfl
theorem lk_2 {α : Type} (y v r x) : lk ((y, v) :: r) x = (cond (sEq y x) (some v) (lk r x) : Option α) := rfl
noncomputable def pt {α : Type} (x : Str) (v : α) : List (Str × α) → List (Str × α)
  | [] => [(x, v)]
  | (y, u) :: r => cond (sEq y x) ((y, v) :: r) ((y, u) :: pt x v r)
theorem pt_1 {α : Type} (x : Str) (v : α) : pt x v [] = ([(x, v)] : List (Str × α)) := rfl
theorem pt_2 {α : Type} (x : Str) (v : α) (y u r) : pt x v ((y, u) :: r) = (cond (sEq y x) ((y, v) :: r) ((y, u) :: pt x v r) : List (Str × α)) := rfl
abbrev Lc := List (Str × AV)
/-- which objects a loop's turn works on, which of the new ones it keeps, how many ids it takes -/
structure FrS where
  sel : List Nat
  new : List Nat
  w : Nat
structure ITab where
  K : Frag
  gt : List (Str × AV)
  bt : List (Str × AV)
  rd : Nat → Str → Bool
  wr : Nat → Str → Bool
  mth : Nat → Str → Option Nat
  mkr : Nat → Option Nat
  isi : Value → Value → Option Bool
  own : Nat → Bool
  ki : Nat → Option Nat
  kp : Nat → Bool
  xwr : Str → Bool
  clsM : Nat → Str → Option Nat
  fr : Nat → AV → Option FrS
  bump : Nat → Nat → Nat
structure FE where
  sc : Scope
  cl : List (Str × Nat)
inductive Fl | next | ret (v : AV) | exc
abbrev Rs (α : Type) := Option (Option α × AS)
structure Rc where
  ev : FE → Expr → Lc → AS → Rs AV
  tr : FE → Expr → Lc → AS → Rs Bool
  ex : FE → Stmt → Lc → AS → Option (Fl × Lc × AS)
  ca : AV → List AV → AS → Rs AV
noncomputable def bd {α β : Type} (x : Rs α) (f : α → AS → Rs β) : Rs β := match x with
  | .none => .none
  | some (.none, σ) => some (.none, σ)
  | some (some a, σ) => f a σ
noncomputable def pu {α : Type} (a : α) (σ : AS) : Rs α := some (some a, σ)
/-- a new object's id, and the state with it -/
noncomputable def mk1 (a : AO) (σ : AS) : Rs AV := match σ with
  | ⟨o, n⟩ => some (some (.id n), ⟨(n, a) :: o, n + 1⟩)
theorem mk1_eq (a : AO) (σ : AS) : mk1 a σ = pu (.id σ.n) (σ.new a) := rfl
noncomputable def lift {α : Type} (σ : AS) (x : Option α) : Rs α := match x with
  | .none => .none
  | some a => some (some a, σ)
noncomputable def isSet : Expr → Bool | .Set .. => true | _ => false
noncomputable def isStar : Expr → Bool | .Starred .. => true | _ => false
noncomputable def isSl : Expr → Bool | .Slice .. => true | _ => false
noncomputable def basOk : Expr → Bool
  | .Name .. => true
  | .Attribute .. => true
  | .Subscript .. => true
  | .Call f es _ _ => match f, es with
    | .Name _ _, _ :: _ => true
    | _, _ => false
  | _ => false
noncomputable def isCmp : Expr → Bool | .ListComp .. => true | .SetComp .. => true | .DictComp .. => true | _ => false
noncomputable def swp (fe : FE) (t e : Expr) : Option (Option (List Str)) := match swappedStores [t] e (envX Str.empty fe.sc 0 0 .none []) with
  | .pure r => some r
  | _ => .none
noncomputable def evs (r : Rc) (fe : FE) : List Expr → Lc → AS → Rs (List AV)
  | [], _, σ => pu [] σ
  | e :: es, lc, σ => cond (isStar e) .none (bd (r.ev fe e lc σ) fun v σ => bd (evs r fe es lc σ) fun vs σ => pu (v :: vs) σ)
theorem evs_2 (r : Rc) (fe : FE) (e es lc σ) : evs r fe (e :: es) lc σ = (cond (isStar e) .none (bd (r.ev fe e lc σ) fun v σ => bd (evs r fe es lc σ) fun vs σ => pu (v :: vs) σ) : Rs (List AV)) := rfl
noncomputable def exs (r : Rc) (fe : FE) : List Stmt → Lc → AS → Option (Fl × Lc × AS)
  | [], lc, σ => some (.next, lc, σ)
  | s :: ss, lc, σ => match r.ex fe s lc σ with
    | some (.next, lc, σ) => exs r fe ss lc σ
    | x => x
theorem exs_2 (r : Rc) (fe : FE) (s ss lc σ) : exs r fe (s :: ss) lc σ = (match r.ex fe s lc σ with
    | some (.next, lc, σ) => exs r fe ss lc σ
    | x => x : Option (Fl × Lc × AS)) := rfl
noncomputable def cellAt (σ : AS) (i : Nat) : Option AV := match σ.get i with | some (.cell v) => v | _ => .none
noncomputable def nmO (T : ITab) (fe : FE) (x : Str) (lc : Lc) (σ : AS) : Option AV := match lk fe.sc.names x with
  | some .local => lk lc x
  | some .cell => match lk fe.cl x with
    | some i => cellAt σ i
    | .none => .none
  | some .free => cond (sEq x (Str.ofString "__classdict__")) .none (match lk fe.cl x with
    | some i => cellAt σ i
    | .none => .none)
  | some .globalImplicit => match lk T.gt x with
    | some v => some v
    | .none => lk T.bt x
  | _ => .none
noncomputable def nmOf (T : ITab) (fe : FE) (x : Str) (lc : Lc) (σ : AS) : Option AV := cond (sEq x (Str.ofString "__debug__")) .none (nmO T fe x lc σ)
noncomputable def noBi : Option AV → Option AV
  | some (.bi _) => .none
  | x => x
noncomputable def cAV : Const → Option AV
  | .none => some .none
  | .bool b => some (.bool b)
  | .int k => some (.int k)
  | .str s => some (.str s)
  | _ => .none
noncomputable def truth (σ : AS) : AV → Option Bool
  | .bool b => some b
  | .none => some false
  | .int k => some (decide (k ≠ 0))
  | _ => .none
noncomputable def dictAt (σ : AS) (d : Nat) : Option Lc := match σ.get d with | some (.dict fs) => some fs | _ => .none
noncomputable def getF (T : ITab) (σ : AS) (v : AV) (a : Str) : Option AV := match v with
  | .id i => match σ.get i with
    | some (.inst C d) => cond (T.rd C a) (match dictAt σ d with | some fs => noBi (lk fs a) | .none => .none) .none
    | _ => .none
  | _ => .none
noncomputable def setD (σ : AS) (d : Nat) (a : Str) (u : AV) : Option AS := match dictAt σ d with
  | some fs => cond (Nat.ble fs.length 900) (some (σ.put d (.dict (pt a u fs)))) .none
  | .none => .none
noncomputable def setF (T : ITab) (σ : AS) (v : AV) (a : Str) (u : AV) : Option AS := match v with
  | .id i => match σ.get i with
    | some (.inst C d) => cond (T.wr C a) (setD σ d a u) .none
    | some (.exc d) => cond (T.xwr a) (match d with
      | .none => wn σ fun n => some ((σ.new (.dict [(a, u)])).put i (.exc (some n)))
      | some d => setD σ d a u) .none
    | _ => .none
  | _ => .none
noncomputable def nthR {α : Type} : List α → Nat → Option α
  | [], _ => .none
  | x :: _, 0 => some x
  | _ :: r, k + 1 => nthR r k
noncomputable def strsV : List Value → Option (List AV)
  | [] => some []
  | .str x _ :: r => match strsV r with | some l => some (.str x :: l) | .none => .none
  | _ => .none
theorem strsV_2 (x w1 r) : strsV (.str x w1 :: r) = (match strsV r with | some l => some (.str x :: l) | .none => .none : Option (List AV)) := rfl
noncomputable def tupK (T : ITab) (a : Nat) : Option (List AV) := match T.K.lookup a with
  | some o => match o.cls, o.data with
    | .type "tuple", .seq its _ => strsV its.toList
    | _, _ => .none
  | .none => .none
noncomputable def listAt (σ : AS) (d : Nat) : Option (List AV) := match σ.get d with | some (.list xs) => some xs | _ => .none
noncomputable def itemN (T : ITab) (σ : AS) (v : AV) (j : Nat) : Option AV := match v with
  | .id a => match σ.get a with
    | some (.tup xs) => nthR xs j
    | some (.list xs) => nthR xs j
    | _ => .none
  | .glob a => match tupK T a with
    | some xs => nthR xs j
    | .none => .none
  | _ => .none
noncomputable def dctAt (σ : AS) (d : Nat) : Option Lc := match σ.get d with | some (.dct fs) => some fs | _ => .none
noncomputable def itemOf (T : ITab) (σ : AS) (v i : AV) : Option AV := match i with
  | .int k => match k with
    | .ofNat j => cond (Nat.ble j 900) (itemN T σ v j) .none
    | _ => .none
  | .str x => match v with
    | .id a => match dctAt σ a with
      | some fs => lk fs x
      | .none => .none
    | _ => .none
  | _ => .none
noncomputable def negA : AV → Option AV
  | .int k => some (.int (-k))
  | _ => .none
noncomputable def isNone : AV → Bool | .none => true | _ => false
noncomputable def strsA : List AV → Option (List Str)
  | [] => some []
  | v :: r => match v with
    | .str y => match strsA r with | some l => some (y :: l) | .none => .none
    | _ => .none
theorem strsA_2  (v r) : strsA  (v :: r) = (match v with
    | .str y => match strsA r with | some l => some (y :: l) | .none => .none
    | _ => .none : Option (List Str)) := rfl
noncomputable def anyS (x : Str) : List Str → Bool
  | [] => false
  | y :: r => cond (sEq y x) true (anyS x r)
theorem anyS_1 (x : Str) : anyS x [] = (false : Bool) := rfl
theorem anyS_2 (x : Str) (y r) : anyS x (y :: r) = (cond (sEq y x) true (anyS x r) : Bool) := rfl
noncomputable def inStrs (x : Str) (l : List AV) : Option Bool := match strsA l with | some ys => some (anyS x ys) | .none => .none
noncomputable def pdF (a : AV) : Option PyData := match a with
  | .none => some .none
  | .int k => some (.int k)
  | .num _ k => some (.int k)
  | .str x => cond (PyData.strOk x) (some (.str x)) .none
  | _ => .none
noncomputable def pdL (f : AV → Option PyData) : List AV → Option (List PyData)
  | [] => some []
  | a :: r => match f a with
    | some d => match pdL f r with
      | some l => some (d :: l)
      | .none => .none
    | .none => .none
theorem pdL_2 (f : AV → Option PyData) (a r) : pdL f (a :: r) = (match f a with
    | some d => match pdL f r with
      | some l => some (d :: l)
      | .none => .none
    | .none => .none : Option (List PyData)) := rfl
noncomputable def pdA (σ : AS) (a : AV) : Option PyData := match a with
  | .id i => match σ.get i with
    | some (.tup xs) => match pdL pdF xs with
      | some l => some (.tuple l)
      | .none => .none
    | _ => .none
  | a => pdF a
noncomputable def eqLs (σ : AS) (i j : Nat) : Option Bool := match listAt σ i with
  | some xs => match listAt σ j with
    | some ys => match pdL (pdA σ) xs with
      | some ds => match pdL (pdA σ) ys with
        | some es => some (PyData.eqv (.list ds) (.list es))
        | .none => .none
      | .none => .none
    | .none => .none
  | .none => .none
noncomputable def cmpEq (σ : AS) (a b : AV) : Option Bool := match a with
  | .str x => match b with | .str y => some (sEq x y) | _ => .none
  | .int x => match b with | .int y => some (decide (x = y)) | _ => .none
  | .dr _ _ => match b with | .int y => cond (decide (y = 13)) (some false) .none | _ => .none
  | .id i => match b with | .id j => eqLs σ i j | _ => .none
  | _ => .none
noncomputable def cmpLe (a b : AV) : Option Bool := match a with
  | .int x => match b with | .int y => some (decide (x ≤ y)) | .num c _ => cond (decide (x = 0)) (some c.geZ) .none | _ => .none
  | .num c _ => match b with | .int y => cond (decide (y = 9)) (some c.leN) .none | _ => .none
  | _ => .none
noncomputable def cmpGe (a b : AV) : Option Bool := match a with
  | .int x => match b with | .int y => some (decide (x ≥ y)) | _ => .none
  | .num c _ => match b with | .int y => cond (decide (y = 0)) (some c.geZ) .none | _ => .none
  | _ => .none
noncomputable def cmpLt (a b : AV) : Option Bool := match a with
  | .int x => match b with | .int y => some (decide (x < y)) | _ => .none
  | _ => .none
noncomputable def cmpGt (a b : AV) : Option Bool := match a with
  | .int x => match b with | .int y => some (decide (x > y)) | _ => .none
  | _ => .none
noncomputable def anyN : List AV → Bool
  | [] => false
  | a :: r => cond (isNone a) true (anyN r)
theorem anyN_2 (a r) : anyN (a :: r) = (cond (isNone a) true (anyN r) : Bool) := rfl
noncomputable def idxN : List AV → Nat → Option Nat
  | [], _ => .none
  | a :: r, k => cond (isNone a) (some k) (idxN r (k + 1))
theorem idxN_2 (a r k) : idxN (a :: r) k = (cond (isNone a) (some k) (idxN r (k + 1)) : Option Nat) := rfl
noncomputable def noneIn (σ : AS) (b : AV) : Option Bool := match b with
  | .id i => match listAt σ i with
    | some xs => match pdL (pdA σ) xs with
      | some _ => some (anyN xs)
      | .none => .none
    | .none => .none
  | _ => .none
noncomputable def inOf (T : ITab) (σ : AS) (a b : AV) : Option Bool := match a with
  | .str x => match b with
    | .id i => match σ.get i with | some (.tup xs) => inStrs x xs | _ => .none
    | .glob a => match tupK T a with | some xs => inStrs x xs | .none => .none
    | _ => .none
  | .none => noneIn σ b
  | _ => .none
noncomputable def notO (x : Option Bool) : Option Bool := match x with | some b => some (!b) | .none => .none
noncomputable def cmpOf (T : ITab) (σ : AS) (op : CmpOp) (a b : AV) : Option Bool := match op with
  | .Is => cond (isNone b) (some (isNone a)) .none
  | .IsNot => cond (isNone b) (some (!(isNone a))) .none
  | .Eq => cmpEq σ a b
  | .NotEq => notO (cmpEq σ a b)
  | .LtE => cmpLe a b
  | .Lt => cmpLt a b
  | .GtE => cmpGe a b
  | .Gt => cmpGt a b
  | .In => inOf T σ a b
  | .NotIn => cond (isNone a) .none (notO (inOf T σ a b))
noncomputable def addOf (a b : AV) : Option AV := match a with
  | .int x => match b with | .int y => some (.int (x + y)) | _ => .none
  | .str x => match b with | .str y => cond (Nat.ble (x.length + y.length) 900) (some (.str (x ++ y))) .none | _ => .none
  | _ => .none
noncomputable def subOf (a b : AV) : Option AV := match a with
  | .int x => match b with | .int y => some (.int (x - y)) | _ => .none
  | .dr c k => match b with | .int y => cond (decide (y = 2)) (some (.num c (k - 2))) .none | _ => .none
  | _ => .none
noncomputable def binOf (op : Operator) (a b : AV) : Option AV := match op with
  | .Add => addOf a b
  | .Sub => subOf a b
  | _ => .none
noncomputable def ownT (T : ITab) (C : Nat) : Option Value := cond (T.own C) (some (.ref C)) .none
noncomputable def tyO (T : ITab) (σ : AS) : AO → Option Value
  | .inst C d => match dictAt σ d with | some _ => ownT T C | .none => .none
  | .tup _ => some (.type "tuple")
  | .list _ => some (.type "list")
  | _ => .none
noncomputable def typeOfA (T : ITab) (σ : AS) : AV → Option Value
  | .id i => match σ.get i with
    | some o => tyO T σ o
    | .none => .none
  | .int _ => some (.type "int")
  | .num _ _ => some (.type "int")
  | .none => some (.type "NoneType")
  | .str _ => some (.type "str")
  | .glob a => match T.ki a with
    | some C => ownT T C
    | .none => .none
  | _ => .none
noncomputable def clsOfA : AV → Option Value
  | .glob a => some (.ref a)
  | .ty s => some (.type s.nm)
  | _ => .none
noncomputable def isInst (T : ITab) (σ : AS) (v : AV) (t : AV) : Option Bool := match typeOfA T σ v with
  | some a => match clsOfA t with
    | some b => T.isi a b
    | .none => .none
  | .none => .none
noncomputable def zipL : List Str → List AV → Option Lc
  | [], [] => some []
  | x :: r, v :: t => (zipL r t).map ((x, v) :: ·)
  | _, _ => .none
theorem zipL_2 (x r v t) : zipL (x :: r) (v :: t) = ((zipL r t).map ((x, v) :: ·) : Option Lc) := rfl
noncomputable def plainAr (a : Arguments) : Option (List Str) := cond (a.posonlyargs.isEmpty && a.vararg.isNone && a.kwonlyargs.isEmpty && a.kw_defaults.isEmpty && a.kwarg.isNone && a.defaults.isEmpty) (some (a.args.map (·.arg))) .none
noncomputable def retOf (x : Option (Fl × Lc × AS)) : Rs AV := match x with
  | .none => .none
  | some (f, _, σ) => match f with
    | .next => pu .none σ
    | .ret v => pu v σ
    | .exc => some (.none, σ)
noncomputable def notInS (x : Str) : List Str → Bool
  | [] => true
  | y :: r => cond (sEq x y) false (notInS x r)
theorem notInS_2 (x : Str) (y r) : notInS x (y :: r) = (cond (sEq x y) false (notInS x r) : Bool) := rfl
noncomputable def ndS : List Str → Bool
  | [] => true
  | x :: r => cond (notInS x r) (ndS r) false
theorem ndS_2 (x r) : ndS (x :: r) = (cond (notInS x r) (ndS r) false : Bool) := rfl
noncomputable def cellNames : List (Str × NameKind) → List Str
  | [] => []
  | (x, .cell) :: r => x :: cellNames r
  | _ :: r => cellNames r
noncomputable def isLoc : Option NameKind → Bool
  | some .local => true
  | _ => false
noncomputable def allLoc (ns : List (Str × NameKind)) : List Str → Bool
  | [] => true
  | x :: r => cond (isLoc (lk ns x)) (allLoc ns r) false
theorem allLoc_2 (ns : List (Str × NameKind)) (x r) : allLoc ns (x :: r) = (cond (isLoc (lk ns x)) (allLoc ns r) false : Bool) := rfl
noncomputable def isNoneV : Value → Bool
  | .none => true
  | _ => false
noncomputable def isFnK : ScopeKind → Bool
  | .function => true
  | _ => false
noncomputable def fnChk (K : Frag) (fd : FuncData) (ps : List Str) : Bool :=
  isNoneV fd.defaults && isNoneV fd.kwdefaults && fd.closure.isEmpty && Nat.beq fd.globals mainGlobals && Nat.beq fd.builtins builtinsNs && !fd.scope.isCoroutine && !fd.scope.isGenerator && isFnK fd.scope.kind && codeIn K fd.code fd.qualname && ndS ps && allLoc fd.scope.names ps
noncomputable def funK (K : Frag) (f : Nat) : Option FuncData := match K.lookup f with
  | some o => match o.data with
    | .func fd => some fd
    | _ => .none
  | .none => .none
noncomputable def stmtsOf (fd : FuncData) : Option (List Stmt) := match fd.body with
  | .stmts b => some b
  | _ => .none
noncomputable def callF (T : ITab) (r : Rc) (f : Nat) (vs : List AV) (σ : AS) : Rs AV := match funK T.K f with
  | some fd => match plainAr fd.params with
    | some ps => match stmtsOf fd with
      | some b => cond (fnChk T.K fd ps) (match zipL ps vs with
        | some lc => match cellNames fd.scope.names with
          | [] => retOf (exs r ⟨fd.scope, []⟩ b lc σ)
          | c :: cs => match cs with
            | [] => wn σ fun n => retOf (exs r ⟨fd.scope, [(c, n)]⟩ b lc (σ.new (.cell .none)))
            | _ :: _ => .none
        | .none => .none) .none
      | .none => .none
    | .none => .none
  | .none => .none
noncomputable def arg1 : List AV → Option AV
  | [a] => some a
  | _ => .none
noncomputable def arg2 : List AV → Option (AV × AV)
  | [a, b] => some (a, b)
  | _ => .none
noncomputable def haul (σ : AS) (cv mv : AV) : Rs AV := match cv with
  | .id c => match mv with
    | .int m => match σ.get c with
      | some (.cart l q) => match q with
        | (k, m') :: q => cond (decide (m = Int.ofNat m')) (match σ.get l with | some .opq => pu k (σ.put c (.cart l q)) | _ => .none) .none
        | [] => .none
      | _ => .none
    | _ => .none
  | _ => .none
noncomputable def lenOf (σ : AS) (v : AV) : Rs AV := match v with
  | .id i => match σ.get i with
    | some (.tup xs) => cond (Nat.ble xs.length 900) (pu (.int xs.length) σ) .none
    | some (.list xs) => cond (Nat.ble xs.length 900) (pu (.int xs.length) σ) .none
    | _ => .none
  | _ => .none
noncomputable def strOf (σ : AS) (v : AV) : Rs AV := match v with
  | .int k => cond (decide (0 ≤ k) && decide (k ≤ 3)) (pu (.str (Str.ofString (toString k))) σ) .none
  | _ => .none
noncomputable def excI (σ : AS) (v t : AV) : Rs AV := match v with
  | .id i => match t with
    | .str _ => match σ.get i with
      | some (.exc d) => match d with
        | .none => pu .none σ
        | some _ => .none
      | _ => .none
    | _ => .none
  | _ => .none
noncomputable def wordOf (x : Rs AV) : Rs AV := match x with
  | some (v, σ) => match v with
    | some _ => pu (.str (Str.ofString "")) σ
    | .none => pu (.str (Str.ofString "constraint_error")) σ
  | .none => .none
noncomputable def isClo (σ : AS) (d : AV) : Bool := match d with
  | .id i => match σ.get i with
    | some (.fn ..) => true
    | _ => false
  | _ => false
noncomputable def excClass : Nat := 70
noncomputable def callG (T : ITab) (r : Rc) (f : Nat) (vs : List AV) (σ : AS) : Rs AV :=
  cond (Nat.beq f 848) (match arg2 vs with | some (c, m) => haul σ c m | .none => .none)
   (cond (Nat.beq f 883) (match arg1 vs with | some d => cond (isClo σ d) (wordOf (r.ca d [] σ)) .none | .none => .none)
   (cond (Nat.beq f excClass) (wn σ fun n => bd (callF T r 67 (.id n :: vs) (σ.new (.exc .none))) fun v σ' => cond (isNone v) (pu (.id n) σ') .none)
    (match T.mkr f with
    | some g =>
      wn σ fun d => bd (callF T r g (.id (d + 1) :: vs) ((σ.new (.dict [])).new (.inst f d))) fun v σ => cond (isNone v) (pu (.id (d + 1)) σ) .none
    | .none => callF T r f vs σ)))
noncomputable def noCell : List (Str × NameKind) → Bool
  | [] => true
  | (_, k) :: r => match k with
    | .cell => false
    | _ => noCell r
theorem noCell_2  (w1 k r) : noCell  ((w1, k) :: r) = (match k with
    | .cell => false
    | _ => noCell r : Bool) := rfl
noncomputable def clsChk (ps : Arguments) (sc : Scope) : Bool := (match plainAr ps with | some l => l.isEmpty | .none => false) && noCell sc.names && !sc.isCoroutine && !sc.isGenerator && isFnK sc.kind
noncomputable def callC (r : Rc) (i : Nat) (vs : List AV) (σ : AS) : Rs AV := match σ.get i with
  | some (.fn ps body sc cl q c) => cond (vs.isEmpty && clsChk ps sc) (match σ.get c with
    | some (.code q') => cond (sEq q' q) (match body with
      | .stmts b => retOf (exs r ⟨sc, cl⟩ b [] σ)
      | .expr e => r.ev ⟨sc, cl⟩ e [] σ) .none
    | _ => .none) .none
  | _ => .none
noncomputable def callB (T : ITab) (b : Bi) (vs : List AV) (σ : AS) : Rs AV := match b with
  | .isinstance => match arg2 vs with
    | some (v, t) => lift σ ((isInst T σ v t).map .bool)
    | .none => .none
  | .len => match arg1 vs with
    | some v => lenOf σ v
    | .none => .none
  | .excInit => match arg2 vs with
    | some (v, t) => excI σ v t
    | .none => .none
noncomputable def rngOf (σ : AS) (v : AV) : Rs AV := match v with
  | .int k => match k with
    | .ofNat n => cond (Nat.ble n 900) (mk1 (.rng n) σ) .none
    | _ => .none
  | _ => .none
noncomputable def call1 (T : ITab) (r : Rc) (f : AV) (vs : List AV) (σ : AS) : Rs AV := match f with
  | .glob f => callG T r f vs σ
  | .id i => callC r i vs σ
  | .bi b => callB T b vs σ
  | .ty t => match t with
    | .str => match arg1 vs with
      | some v => strOf σ v
      | .none => .none
    | .range => match arg1 vs with
      | some v => rngOf σ v
      | .none => .none
    | _ => .none
  | _ => .none
noncomputable def kpOf (T : ITab) : AV → Bool
  | .glob a => T.kp a
  | .bi _ => true
  | .ty _ => true
  | _ => false
noncomputable def isGlob : AV → Bool
  | .glob _ => true
  | _ => false
noncomputable def argOk (T : ITab) (f : AV) (es : List Expr) : Bool := kpOf T f && es.all (fun e => !isStar e) && (isGlob f || !es.isEmpty)
inductive Me | fn (f : AV) (first : List AV) | app (i : Nat) | idx (i : Nat) | ext (i : Nat)
noncomputable def meth (T : ITab) (σ : AS) (v : AV) (m : Str) : Option Me := match v with
  | .id i => match σ.get i with
    | some (.inst C d) => match T.mth C m with
      | some f => match dictAt σ d with
        | some F => match lk F m with
          | .none => some (.fn (.glob f) [.id i])
          | some _ => .none
        | .none => .none
      | .none => .none
    | some (.list _) => cond (sEq m (Str.ofString "append")) (some (.app i)) (cond (sEq m (Str.ofString "index")) (some (.idx i)) (cond (sEq m (Str.ofString "extend")) (some (.ext i)) .none))
    | _ => .none
  | .glob C => match T.clsM C m with
    | some f => some (.fn (.glob f) [])
    | .none => .none
  | .ty t => match t with
    | .exc => cond (sEq m (Str.ofString "__init__")) (some (.fn (.bi .excInit) [])) .none
    | _ => .none
  | _ => .none
noncomputable def appd (i : Nat) (v : AV) (σ : AS) : Rs AV := match σ.get i with
  | some (.list xs) => cond (Nat.ble xs.length 900) (pu .none (σ.put i (.list (xs ++ [v])))) .none
  | _ => .none
noncomputable def idxd (i : Nat) (v : AV) (σ : AS) : Rs AV := cond (isNone v) (match listAt σ i with
  | some xs => match pdL (pdA σ) xs with
    | some _ => match idxN xs 0 with
      | some k => cond (Nat.ble xs.length 900) (pu (.int (Int.ofNat k)) σ) .none
      | .none => .none
    | .none => .none
  | .none => .none) .none
noncomputable def extd (i : Nat) (v : AV) (σ : AS) : Rs AV := match v with
  | .id j => match listAt σ i with
    | some xs => match listAt σ j with
      | some ys => cond (Nat.ble (xs ++ ys).length 900) (pu .none (σ.put i (.list (xs ++ ys)))) .none
      | .none => .none
    | .none => .none
  | _ => .none
noncomputable def plainEs (es : List Expr) : Bool := es.all (fun e => !isStar e)
noncomputable def one1 : List Expr → Option Expr
  | [a] => some a
  | _ => .none
noncomputable def callM (r : Rc) (fe : FE) (es : List Expr) (lc : Lc) (σ : AS) : Option Me → Rs AV
  | some me => match me with
    | .fn f fi => cond (plainEs es && !es.isEmpty || !fi.isEmpty && plainEs es) (bd (evs r fe es lc σ) fun vs σ => r.ca f (fi ++ vs) σ) .none
    | .app i => match one1 es with
      | some e => cond (isStar e) .none (bd (r.ev fe e lc σ) fun u σ => appd i u σ)
      | .none => .none
    | .idx i => match one1 es with
      | some e => cond (isStar e) .none (bd (r.ev fe e lc σ) fun u σ => idxd i u σ)
      | .none => .none
    | .ext i => match one1 es with
      | some e => cond (isStar e) .none (bd (r.ev fe e lc σ) fun u σ => extd i u σ)
      | .none => .none
  | .none => .none
noncomputable def keyS : Option Expr → Option Str
  | some e => match e with
    | .Constant c _ _ => match c with
      | .str k => some k
      | _ => .none
    | _ => .none
  | .none => .none
noncomputable def dps (r : Rc) (fe : FE) : List (Option Expr) → List Expr → Lc → AS → Rs Lc
  | [], es, _, σ => match es with
    | [] => pu [] σ
    | _ :: _ => .none
  | k :: ks, es, lc, σ => match es with
    | [] => .none
    | e :: es => match keyS k with
      | some k => bd (r.ev fe e lc σ) fun v σ => bd (dps r fe ks es lc σ) fun vs σ => pu ((k, v) :: vs) σ
      | .none => .none
theorem dps_2 (r : Rc) (fe : FE) (k ks es lc σ) : dps r fe (k :: ks) es lc σ = (match es with
    | [] => .none
    | e :: es => match keyS k with
      | some k => bd (r.ev fe e lc σ) fun v σ => bd (dps r fe ks es lc σ) fun vs σ => pu ((k, v) :: vs) σ
      | .none => .none : Rs Lc) := rfl
noncomputable def evDict (r : Rc) (fe : FE) (ks : List (Option Expr)) (vs : List Expr) (lc : Lc) (σ : AS) : Rs AV := match ks with
  | [] => match vs with
    | [] => mk1 (.dct []) σ
    | _ :: _ => .none
  | k :: ks => cond (PyProof.Rows.strLits (k :: ks) && Nat.beq (k :: ks).length vs.length && Nat.ble (k :: ks).length 15) (wn σ fun n => bd (dps r fe (k :: ks) vs lc (σ.new (.dct []))) fun fs τ => match dctAt τ n with
    | some F => match F with
      | [] => cond (ndS (fs.map (·.1))) (pu (.id n) (τ.put n (.dct fs))) .none
      | _ :: _ => .none
    | .none => .none) .none
noncomputable def two {α : Type} : List α → Option (α × α)
  | [a, b] => some (a, b)
  | _ => .none
noncomputable def one {α : Type} : List α → Option α
  | [a] => some a
  | _ => .none
noncomputable def evCmp (T : ITab) (r : Rc) (fe : FE) (a : Expr) (op : CmpOp) (b : Expr) (lc : Lc) (σ : AS) : Rs Bool :=
  cond (behindInMarks op b) .none (bd (r.ev fe a lc σ) fun v σ => bd (r.ev fe b lc σ) fun u σ => lift σ (cmpOf T σ op v u))
noncomputable def evBool (r : Rc) (fe : FE) (op : BoolOp) (es : List Expr) (p : Pos) (lc : Lc) (σ : AS) : Rs AV := match es with
  | [] => .none
  | a :: es => match es with
    | [] => r.ev fe a lc σ
    | b :: es => match op with
      | .And => bd (r.ev fe a lc σ) fun v σ => bd (lift σ (truth σ v)) fun t σ => cond t (r.ev fe (.BoolOp .And (b :: es) p) lc σ) (pu v σ)
      | .Or => bd (r.ev fe a lc σ) fun v σ => bd (lift σ (truth σ v)) fun t σ => cond t (pu v σ) (r.ev fe (.BoolOp .Or (b :: es) p) lc σ)
noncomputable def evCall (T : ITab) (r : Rc) (fe : FE) (f : Expr) (es : List Expr) (p : Pos) (lc : Lc) (σ : AS) : Rs AV := match f with
  | .Name x _ => bd (lift σ (nmOf T fe x lc σ)) fun f σ => cond (argOk T f es) (bd (evs r fe es lc σ) fun vs σ => r.ca f vs σ) .none
  | .Attribute o m ap => cond (basOk o && plainEs es && Nat.blt es.length 30 && Nat.beq ap.endLine p.line) (bd (r.ev fe o lc σ) fun v σ => callM r fe es lc σ (meth T σ v m)) .none
  | _ => .none
noncomputable def tk {α : Type} : Nat → List α → List α
  | 0, _ => []
  | _ + 1, [] => []
  | n + 1, a :: r => a :: tk n r
theorem tk_1 {α : Type} (w1) : tk 0 w1 = ([] : List α) := rfl
theorem tk_2 {α : Type} (w1) : tk (w1 + 1) [] = ([] : List α) := rfl
theorem tk_3 {α : Type} (n a r) : tk (n + 1) (a :: r) = (a :: tk n r : List α) := rfl
noncomputable def slO (m : Nat) (σ : AS) : AO → Rs AV
  | .list xs => cond (Nat.ble m 900 && Nat.ble xs.length 900) (mk1 (.list (tk m xs)) σ) .none
  | .scr => cond (Nat.beq m 30) (mk1 .opq σ) .none
  | _ => .none
noncomputable def sliceOf (σ : AS) (v k : AV) : Rs AV := match k with
  | .int z => match z with
    | .ofNat m => match v with
      | .id i => match σ.get i with
        | some o => slO m σ o
        | .none => .none
      | _ => .none
    | _ => .none
  | _ => .none
noncomputable def isNmE : Expr → Bool | .Name .. => true | _ => false
noncomputable def evSl (r : Rc) (fe : FE) (e i : Expr) (lc : Lc) (σ : AS) : Rs AV := match i with
  | .Slice lo hi st _ => match lo with
    | .none => match hi with
      | some u => match st with
        | .none => cond (isNmE e) (bd (r.ev fe e lc σ) fun v σ => bd (r.ev fe u lc σ) fun k σ => sliceOf σ v k) .none
        | some _ => .none
      | .none => .none
    | some _ => .none
  | _ => .none
noncomputable def evUn (r : Rc) (fe : FE) (op : UnaryOp) (a : Expr) (lc : Lc) (σ : AS) : Rs AV := match op with
  | .Not => bd (r.ev fe a lc σ) fun v σ => bd (lift σ (truth σ v)) fun b σ => pu (.bool (!b)) σ
  | .USub => bd (r.ev fe a lc σ) fun v σ => lift σ (negA v)
  | _ => .none
noncomputable def dead (σ : AS) (i d : Nat) : AS := match σ with
  | ⟨o, n⟩ => ⟨o.filter (fun p => !(Nat.beq p.1 i) && !(Nat.beq p.1 d)), n⟩
theorem dead_def (σ : AS) (i d : Nat) : dead σ i d = ⟨σ.o.filter (fun p => !(Nat.beq p.1 i) && !(Nat.beq p.1 d)), σ.n⟩ := rfl
noncomputable def pk : List Nat → AS → List (Nat × AO)
  | [], _ => []
  | i :: r, σ => match σ.get i with
    | some a => (i, a) :: pk r σ
    | .none => pk r σ
theorem pk_2  (i r σ) : pk  (i :: r) σ = (match σ.get i with
    | some a => (i, a) :: pk r σ
    | .none => pk r σ : List (Nat × AO)) := rfl
noncomputable def ky : List (Nat × AO) → List Nat
  | [] => []
  | p :: r => p.1 :: ky r
theorem ky_2 (p r) : ky (p :: r) = (p.1 :: ky r : List Nat) := rfl
/-- do the ids stand among the keys, in this order? -/
noncomputable def allIn : List (Nat × AO) → List Nat → Bool
  | [], r => match r with
    | [] => true
    | _ :: _ => false
  | p :: l, r => match r with
    | [] => true
    | i :: t => cond (Nat.beq p.1 i) (allIn l t) (allIn l (i :: t))
theorem allIn_2  (p l r) : allIn  (p :: l) r = (match r with
    | [] => true
    | i :: t => cond (Nat.beq p.1 i) (allIn l t) (allIn l (i :: t)) : Bool) := rfl
noncomputable def keysLt (n : Nat) : List (Nat × AO) → Bool
  | [] => true
  | p :: r => cond (Nat.blt p.1 n) (keysLt n r) false
theorem keysLt_2 (n : Nat) (p r) : keysLt n (p :: r) = (cond (Nat.blt p.1 n) (keysLt n r) false : Bool) := rfl
noncomputable def addN (n : Nat) : List Nat → List Nat
  | [] => []
  | i :: r => (n + i) :: addN n r
noncomputable def nextOf (σ : AS) (j : Nat) : Option (Option AV × AS) := match σ.get j with
  | some (.itR i n) => cond (Nat.blt i n) (some (some (.int (Int.ofNat i)), σ.put j (.itR (i + 1) n))) (some (.none, dead σ j j))
  | some (.itL l i) => match listAt σ l with
    | some xs => match nthR xs i with
      | some v => some (some v, σ.put j (.itL l (i + 1)))
      | .none => some (.none, dead σ j j)
    | .none => .none
  | _ => .none
noncomputable def iterOf (σ : AS) (v : AV) : Option AS := match v with
  | .id i => match σ.get i with
    | some (.rng n) => some (σ.new (.itR 0 n))
    | some (.list _) => some (σ.new (.itL i 0))
    | _ => .none
  | _ => .none
noncomputable def clSel (cl : List (Str × Nat)) : List (Str × NameKind) → List (Str × Nat) → Option (List (Str × Nat))
  | [], acc => some acc
  | (x, k) :: r, acc => match k with
    | .free => match lk cl x with
      | some a => clSel cl r ((x, a) :: acc)
      | .none => .none
    | _ => clSel cl r acc
theorem clSel_2 (cl : List (Str × Nat)) (x k r acc) : clSel cl ((x, k) :: r) acc = (match k with
    | .free => match lk cl x with
      | some a => clSel cl r ((x, a) :: acc)
      | .none => .none
    | _ => clSel cl r acc : Option (List (Str × Nat))) := rfl
noncomputable def isCellK : Option NameKind → Bool
  | some .cell => true
  | _ => false
noncomputable def locOk (ns : List (Str × NameKind)) : List (Str × NameKind) → Bool
  | [] => true
  | (x, k) :: r => match k with
    | .local => cond (isLoc (lk ns x)) (locOk ns r) false
    | _ => locOk ns r
theorem locOk_2 (ns : List (Str × NameKind)) (x k r) : locOk ns ((x, k) :: r) = (match k with
    | .local => cond (isLoc (lk ns x)) (locOk ns r) false
    | _ => locOk ns r : Bool) := rfl
/-- the block of a comprehension: its names, its cells, its namespace -/
structure CB where
  ns : List (Str × NameKind)
  cl : List (Str × Nat)
  c : Nat
noncomputable def cnmO (T : ITab) (fe : FE) (B : CB) (y : Str) (σ : AS) : Option AV := match lk B.ns y with
  | some .local => match σ.get B.c with
    | some (.ns lc) => lk lc y
    | _ => .none
  | some .free => cond (isCellK (lk fe.sc.names y)) (match lk B.cl y with
    | some i => cellAt σ i
    | .none => .none) .none
  | some .globalImplicit => match lk T.gt y with
    | some v => some v
    | .none => lk T.bt y
  | _ => .none
noncomputable def cnm (T : ITab) (fe : FE) (B : CB) (y : Str) (σ : AS) : Option AV := cond (sEq y (Str.ofString "__debug__")) .none (cnmO T fe B y σ)
noncomputable def cev (T : ITab) (r : Rc) (fe : FE) (B : CB) : Nat → Expr → AS → Rs AV
  | 0, _, _ => .none
  | n + 1, e, σ => match e with
    | .Constant c _ _ => lift σ (cAV c)
    | .Name y _ => lift σ (cnm T fe B y σ)
    | .Attribute b a _ => cond (basOk b) (bd (cev T r fe B n b σ) fun v σ => lift σ (getF T σ v a)) .none
    | .Subscript b i _ => cond (isSl i) .none (bd (cev T r fe B n b σ) fun v σ => bd (cev T r fe B n i σ) fun u σ => lift σ (itemOf T σ v u))
    | .Call f es kw _ => cond kw.isEmpty (match f with
      | .Name y _ => match one1 es with
        | some e => cond (isStar e) .none (bd (lift σ (cnm T fe B y σ)) fun fv σ => cond (isGlob fv && kpOf T fv) (bd (cev T r fe B n e σ) fun v σ => r.ca fv [v] σ) .none)
        | .none => .none
      | _ => .none) .none
    | _ => .none
noncomputable def cte (T : ITab) (r : Rc) (fe : FE) (B : CB) (e : Expr) (σ : AS) : Rs Bool := match e with
  | .Compare a ops bs _ => match one ops with
    | some op => match one bs with
      | some b => cond (behindInMarks op b) .none (bd (cev T r fe B 8 a σ) fun v σ => bd (cev T r fe B 8 b σ) fun u σ => lift σ (cmpOf T σ op v u))
      | .none => .none
    | .none => .none
  | _ => .none
noncomputable def cel (T : ITab) (r : Rc) (fe : FE) (B : CB) (elt : Expr) (σ : AS) : Option (Option AV × AS) := match cev T r fe B 8 elt σ with
  | some (u, σ) => match u with
    | some u => some (some u, σ)
    | .none => .none
  | .none => .none
noncomputable def compElt (T : ITab) (r : Rc) (fe : FE) (B : CB) (elt : Expr) (ifs : List Expr) (σ : AS) : Option (Option AV × AS) := match ifs with
  | [] => cel T r fe B elt σ
  | t :: ts => match ts with
    | [] => match cte T r fe B t σ with
      | some (b, σ) => match b with
        | some b => cond b (cel T r fe B elt σ) (some (.none, σ))
        | .none => .none
      | .none => .none
    | _ :: _ => .none
noncomputable def compT (T : ITab) (r : Rc) (fe : FE) (B : CB) (elt : Expr) (ifs : List Expr) (key : Nat) (v : AV) (σ : AS) : Option (Option AV × AS) := match T.fr key v with
  | .none => compElt T r fe B elt ifs σ
  | some f => wn σ fun n => match compElt T r fe B elt ifs ⟨pk (B.c :: f.sel) σ, n⟩ with
    | some (u, τ) => wn τ fun z => cond (Nat.ble z (n + f.w) && allIn (pk (B.c :: f.sel ++ addN n f.new) τ) (ky (pk (B.c :: f.sel) σ)) && keysLt n σ.o) (some (u, ⟨pk (B.c :: f.sel ++ addN n f.new) τ ++ σ.o, n + f.w⟩)) .none
    | .none => .none
noncomputable def compN (T : ITab) (r : Rc) (fe : FE) (B : CB) (x : Str) (elt : Expr) (ifs : List Expr) (key j a : Nat) : Nat → AS → Option AS
  | 0, _ => .none
  | m + 1, σ => match nextOf σ j with
    | some (ov, σ) => match ov with
      | some v => match σ.get B.c with
        | some (.ns _) => match compT T r fe B elt ifs key v (σ.put B.c (.ns [(x, v)])) with
          | some (ou, σ) => match ou with
            | some u => match listAt σ a with
              | some xs => cond (Nat.ble xs.length 900) (compN T r fe B x elt ifs key j a m (σ.put a (.list (xs ++ [u])))) .none
              | .none => .none
            | .none => compN T r fe B x elt ifs key j a m σ
          | .none => .none
        | _ => .none
      | .none => some σ
    | .none => .none
theorem compN_2 (T : ITab) (r : Rc) (fe : FE) (B : CB) (x : Str) (elt : Expr) (ifs : List Expr) (key j a : Nat) (m σ) : compN T r fe B x elt ifs key j a (m + 1) σ = (match nextOf σ j with
    | some (ov, σ) => match ov with
      | some v => match σ.get B.c with
        | some (.ns _) => match compT T r fe B elt ifs key v (σ.put B.c (.ns [(x, v)])) with
          | some (ou, σ) => match ou with
            | some u => match listAt σ a with
              | some xs => cond (Nat.ble xs.length 900) (compN T r fe B x elt ifs key j a m (σ.put a (.list (xs ++ [u])))) .none
              | .none => .none
            | .none => compN T r fe B x elt ifs key j a m σ
          | .none => .none
        | _ => .none
      | .none => some σ
    | .none => .none : Option AS) := rfl
noncomputable def isListV (σ : AS) (v : AV) : Bool := match v with
  | .id i => match listAt σ i with
    | some _ => true
    | .none => false
  | _ => false
noncomputable def compG (T : ITab) (r : Rc) (fe : FE) (sc : Scope) (cl : List (Str × Nat)) (x : Str) (elt : Expr) (ifs : List Expr) (key : Nat) (v : AV) (σ : AS) : Rs AV := cond (isListV σ v) (wn σ fun n => match iterOf σ v with
  | some τ => match compN T r fe ⟨sc.names, cl, n + 2⟩ x elt ifs key n (n + 1) 64 ((τ.new (.list [])).new (.ns [])) with
    | some σ' => match σ'.get (n + 2) with
      | some (.ns _) => match listAt σ' (n + 1) with
        | some _ => pu (.id (n + 1)) (dead σ' (n + 2) (n + 2))
        | .none => .none
      | _ => .none
    | .none => .none
  | .none => .none) .none
noncomputable def genOf : List Comprehension → Option (Str × Expr × List Expr)
  | [] => .none
  | g :: r => match r with
    | [] => match g.target with
      | .Name x _ => cond (decide (g.is_async = 0)) (some (x, g.iter, g.ifs)) .none
      | _ => .none
    | _ :: _ => .none
noncomputable def evComp (T : ITab) (r : Rc) (fe : FE) (elt : Expr) (gens : List Comprehension) (sc : Scope) (pos : Pos) (lc : Lc) (σ : AS) : Rs AV := match genOf gens with
  | some (x, it, ifs) => cond (!isSet it && isFnK sc.kind && noCell sc.names && locOk sc.names sc.names && isLoc (lk sc.names x)) (match clSel fe.cl sc.names [] with
    | some cl => bd (r.ev fe it lc σ) fun v σ => compG T r fe sc cl x elt ifs (pos.line * 1000 + pos.col) v σ
    | .none => .none) .none
  | .none => .none
noncomputable def ev1 (T : ITab) (r : Rc) (fe : FE) (e : Expr) (lc : Lc) (σ : AS) : Rs AV := match e with
  | .Constant c _ _ => lift σ (cAV c)
  | .Name x _ => lift σ (nmOf T fe x lc σ)
  | .Attribute e a _ => cond (basOk e) (bd (r.ev fe e lc σ) fun v σ => lift σ (getF T σ v a)) .none
  | .Subscript e i _ => cond (isSl i) (evSl r fe e i lc σ) (bd (r.ev fe e lc σ) fun v σ => bd (r.ev fe i lc σ) fun u σ => lift σ (itemOf T σ v u))
  | .Compare a ops bs _ => match one ops with
    | some op => match one bs with
      | some b => bd (evCmp T r fe a op b lc σ) fun t σ => pu (.bool t) σ
      | .none => .none
    | .none => .none
  | .BinOp a op b _ => bd (r.ev fe a lc σ) fun v σ => bd (r.ev fe b lc σ) fun u σ => lift σ (binOf op v u)
  | .UnaryOp op a _ => evUn r fe op a lc σ
  | .BoolOp op es p => evBool r fe op es p lc σ
  | .IfExp t a b _ => bd (r.tr fe t lc σ) fun c σ => cond c (r.ev fe a lc σ) (r.ev fe b lc σ)
  | .Tuple es _ _ => bd (evs r fe es lc σ) fun vs σ => cond (Nat.ble vs.length 900) (mk1 (.tup vs) σ) .none
  | .List es _ => bd (evs r fe es lc σ) fun vs σ => cond (Nat.ble vs.length 900) (mk1 (.list vs) σ) .none
  | .Dict ks vs _ => evDict r fe ks vs lc σ
  | .Call f es kw p => cond kw.isEmpty (evCall T r fe f es p lc σ) .none
  | .ListComp elt gens sc p => evComp T r fe elt gens sc p lc σ
  | _ => .none
noncomputable def trBool (r : Rc) (fe : FE) (op : BoolOp) (es : List Expr) (p : Pos) (lc : Lc) (σ : AS) : Rs Bool := match es with
  | [] => match op with
    | .And => pu true σ
    | .Or => pu false σ
  | a :: es => match op with
    | .And => bd (r.tr fe a lc σ) fun t σ => cond t (r.tr fe (.BoolOp .And es p) lc σ) (pu false σ)
    | .Or => bd (r.tr fe a lc σ) fun t σ => cond t (pu true σ) (r.tr fe (.BoolOp .Or es p) lc σ)
noncomputable def trCmp (T : ITab) (r : Rc) (fe : FE) (a : Expr) (ops : List CmpOp) (bs : List Expr) (lc : Lc) (σ : AS) : Rs Bool := match one ops with
  | some op => match one bs with
    | some b => evCmp T r fe a op b lc σ
    | .none => .none
  | .none => match two ops with
    | some (op, op') => match two bs with
      | some (b, c) => cond (lastMarks [op, op'] [b, c]) .none (bd (r.ev fe a lc σ) fun v σ => bd (r.ev fe b lc σ) fun u σ => bd (lift σ (cmpOf T σ op v u)) fun t σ =>
          cond t (bd (r.ev fe c lc σ) fun z σ => lift σ (cmpOf T σ op' u z)) (pu false σ))
      | .none => .none
    | .none => .none
noncomputable def tr1 (T : ITab) (r : Rc) (fe : FE) (e : Expr) (lc : Lc) (σ : AS) : Rs Bool := match e with
  | .UnaryOp op a _ => match op with
    | .Not => bd (r.tr fe a lc σ) fun b σ => pu (!b) σ
    | _ => .none
  | .BoolOp op es p => trBool r fe op es p lc σ
  | .Compare a ops bs _ => trCmp T r fe a ops bs lc σ
  | .Call .. => bd (r.ev fe e lc σ) fun v σ => lift σ (truth σ v)
  | .Attribute .. => bd (r.ev fe e lc σ) fun v σ => lift σ (truth σ v)
  | .Name .. => bd (r.ev fe e lc σ) fun v σ => lift σ (truth σ v)
  | _ => .none
noncomputable def st1 (fe : FE) (x : Str) (v : AV) (lc : Lc) (σ : AS) : Option (Lc × AS) := match lk fe.sc.names x with
  | some .local => some (pt x v lc, σ)
  | some .cell => match lk fe.cl x with
    | some i => match σ.get i with
      | some (.cell _) => some (lc, σ.put i (.cell (some v)))
      | _ => .none
    | .none => .none
  | _ => .none
noncomputable def asg (T : ITab) (r : Rc) (fe : FE) (t : Expr) (v : AV) (lc : Lc) (σ : AS) : Option (Fl × Lc × AS) := match t with
  | .Name x _ => match st1 fe x v lc σ with | some (lc, σ) => some (.next, lc, σ) | .none => .none
  | .Attribute o a _ => match r.ev fe o lc σ with
    | some (some ov, σ) => match setF T σ ov a v with | some σ => some (.next, lc, σ) | .none => .none
    | some (.none, σ) => some (.exc, lc, σ)
    | .none => .none
  | _ => .none
noncomputable def asgs (T : ITab) (r : Rc) (fe : FE) : List Expr → List AV → Lc → AS → Option (Fl × Lc × AS)
  | [], [], lc, σ => some (.next, lc, σ)
  | t :: ts, v :: vs, lc, σ => match asg T r fe t v lc σ with
    | some (.next, lc, σ) => asgs T r fe ts vs lc σ
    | x => x
  | _, _, _, _ => .none
theorem asgs_2 (T : ITab) (r : Rc) (fe : FE) (t ts v vs lc σ) : asgs T r fe (t :: ts) (v :: vs) lc σ = (match asg T r fe t v lc σ with
    | some (.next, lc, σ) => asgs T r fe ts vs lc σ
    | x => x : Option (Fl × Lc × AS)) := rfl
noncomputable def gx {α : Type} (lc : Lc) (x : Rs α) (k : α → AS → Option (Fl × Lc × AS)) : Option (Fl × Lc × AS) := match x with
  | some (some v, σ) => k v σ
  | some (.none, σ) => some (.exc, lc, σ)
  | .none => .none
noncomputable def setI (σ : AS) (o i v : AV) : Option AS := match o with
  | .id a => match i with
    | .str x => match dctAt σ a with
      | some fs => cond (Nat.ble fs.length 900) (match lk fs x with | .none => some (σ.put a (.dct (fs ++ [(x, v)]))) | some _ => .none) .none
      | .none => .none
    | _ => .none
  | _ => .none
noncomputable def seqOf (σ : AS) : AV → Option (List AV)
  | .id i => match σ.get i with | some (.tup xs) => some xs | _ => .none
  | _ => .none
noncomputable def stN (fe : FE) : List Str → List AV → Lc → AS → Option (Lc × AS)
  | [], [], lc, σ => some (lc, σ)
  | x :: xs, v :: vs, lc, σ => match st1 fe x v lc σ with
    | some (lc, σ) => stN fe xs vs lc σ
    | .none => .none
  | _, _, _, _ => .none
theorem stN_2 (fe : FE) (x xs v vs lc σ) : stN fe (x :: xs) (v :: vs) lc σ = (match st1 fe x v lc σ with
    | some (lc, σ) => stN fe xs vs lc σ
    | .none => .none : Option (Lc × AS)) := rfl
noncomputable def nx (y : Option (Lc × AS)) : Option (Fl × Lc × AS) := match y with
  | some (lc, σ) => some (.next, lc, σ)
  | .none => .none
noncomputable def nx1 (lc : Lc) (y : Option AS) : Option (Fl × Lc × AS) := match y with
  | some σ => some (.next, lc, σ)
  | .none => .none
noncomputable def exAsg (T : ITab) (r : Rc) (fe : FE) (t e : Expr) (lc : Lc) (σ : AS) : Option (Fl × Lc × AS) := match t with
  | .Name x _ => gx lc (r.ev fe e lc σ) fun v σ => nx (st1 fe x v lc σ)
  | .Attribute o a p' => gx lc (r.ev fe e lc σ) fun v σ => gx lc (r.ev fe o lc σ) fun ov σ => nx1 lc (setF T σ ov a v)
  | .Tuple ts k p' => match swp fe (.Tuple ts k p') e with
    | some ns => match ns with
      | .none => cond (plainEs ts) (gx lc (r.ev fe e lc σ) fun v σ => match seqOf σ v with
        | some vs => cond (Nat.beq ts.length vs.length) (asgs T r fe ts vs lc σ) .none
        | .none => .none) .none
      | some ns => gx lc (r.ev fe e lc σ) fun v σ => match seqOf σ v with
        | some vs => cond (Nat.beq ns.length vs.length) (nx (stN fe ns.reverse vs.reverse lc σ)) .none
        | .none => .none
    | .none => .none
  | .Subscript o i _ => gx lc (r.ev fe e lc σ) fun v σ => gx lc (r.ev fe o lc σ) fun ov σ => gx lc (r.ev fe i lc σ) fun iv σ => nx1 lc (setI σ ov iv v)
  | _ => .none
noncomputable def isInt : AV → Bool | .int _ => true | _ => false
noncomputable def exAug (T : ITab) (r : Rc) (fe : FE) (t : Expr) (op : Operator) (e : Expr) (lc : Lc) (σ : AS) : Option (Fl × Lc × AS) := match t with
  | .Name x _ => cond (isLoc (lk fe.sc.names x)) (match lk lc x with
    | some u => cond (isInt u) (gx lc (r.ev fe e lc σ) fun v σ => match binOf op u v with
      | some z => nx (st1 fe x z lc σ)
      | .none => .none) .none
    | .none => .none) .none
  | .Attribute o a _ => gx lc (r.ev fe o lc σ) fun ov σ => match getF T σ ov a with
    | some u => cond (isInt u) (gx lc (r.ev fe e lc σ) fun v σ => match binOf op u v with
      | some z => nx1 lc (setF T σ ov a z)
      | .none => .none) .none
    | .none => .none
  | _ => .none
noncomputable def turnS (T : ITab) (r : Rc) (fe : FE) (body : List Stmt) (ln : Nat) (v : AV) (lc : Lc) (σ : AS) : Option (Fl × Lc × AS) := match T.fr ln v with
  | .none => exs r fe body lc σ
  | some f => wn σ fun n => match exs r fe body lc ⟨pk f.sel σ, n⟩ with
    | some (fl, lc', τ) => wn τ fun z => cond (Nat.ble z (n + f.w) && allIn (pk (f.sel ++ addN n f.new) τ) (ky (pk f.sel σ)) && keysLt n σ.o) (some (fl, lc', ⟨pk (f.sel ++ addN n f.new) τ ++ σ.o, n + f.w⟩)) .none
    | .none => .none
noncomputable def asgT (T : ITab) (r : Rc) (fe : FE) (t : Expr) (v : AV) (lc : Lc) (σ : AS) : Option (Fl × Lc × AS) := match t with
  | .Name x _ => nx (st1 fe x v lc σ)
  | .Tuple ts _ _ => cond (plainEs ts) (match seqOf σ v with
    | some vs => cond (Nat.beq ts.length vs.length) (asgs T r fe ts vs lc σ) .none
    | .none => .none) .none
  | _ => .none
noncomputable def forN (T : ITab) (r : Rc) (fe : FE) (t : Expr) (body : List Stmt) (ln j : Nat) : Nat → Lc → AS → Option (Fl × Lc × AS)
  | 0, _, _ => .none
  | m + 1, lc, σ => match nextOf σ j with
    | some (some v, σ) => match asgT T r fe t v lc σ with
      | some (.next, lc, σ) => match turnS T r fe body ln v lc σ with
        | some (.next, lc, σ) => forN T r fe t body ln j m lc σ
        | some (.exc, lc, σ) => some (.exc, lc, σ)
        | _ => .none
      | _ => .none
    | some (.none, σ) => some (.next, lc, σ)
    | .none => .none
theorem forN_2 (T : ITab) (r : Rc) (fe : FE) (t : Expr) (body : List Stmt) (ln j : Nat) (m lc σ) : forN T r fe t body ln j (m + 1) lc σ = (match nextOf σ j with
    | some (some v, σ) => match asgT T r fe t v lc σ with
      | some (.next, lc, σ) => match turnS T r fe body ln v lc σ with
        | some (.next, lc, σ) => forN T r fe t body ln j m lc σ
        | some (.exc, lc, σ) => some (.exc, lc, σ)
        | _ => .none
      | _ => .none
    | some (.none, σ) => some (.next, lc, σ)
    | .none => .none : Option (Fl × Lc × AS)) := rfl
noncomputable def exFor (T : ITab) (r : Rc) (fe : FE) (t it : Expr) (body : List Stmt) (ln : Nat) (lc : Lc) (σ : AS) : Option (Fl × Lc × AS) := gx lc (r.ev fe it lc σ) fun v σ => wn σ fun n => match iterOf σ v with
  | some τ => forN T r fe t body ln n 64 lc τ
  | .none => .none
noncomputable def isWord : Option AV → Bool
  | some v => match v with
    | .str x => sEq x (Str.ofString "constraint_error")
    | _ => false
  | .none => false
noncomputable def exRaise (n0 : Nat) (v : AV) (lc : Lc) (σ : AS) : Option (Fl × Lc × AS) := match v with
  | .id i => match σ.get i with
    | some (.exc d) => match d with
      | some d => match dictAt σ d with
        | some F => cond (Nat.ble n0 i && Nat.ble n0 d && isWord (lk F (Str.ofString "word"))) (some (.exc, lc, dead σ i d)) .none
        | .none => .none
      | .none => .none
    | _ => .none
  | _ => .none
noncomputable def ex1 (T : ITab) (r : Rc) (fe : FE) (s : Stmt) (lc : Lc) (σ : AS) : Option (Fl × Lc × AS) := match s with
  | .Expr e _ => cond (isCmp e) .none (gx lc (r.ev fe e lc σ) fun _ σ => some (.next, lc, σ))
  | .Return eo _ => match eo with
    | .none => some (.ret .none, lc, σ)
    | some e => gx lc (r.ev fe e lc σ) fun v σ => some (.ret v, lc, σ)
  | .If t a b _ => gx lc (r.tr fe t lc σ) fun c σ => cond c (exs r fe a lc σ) (exs r fe b lc σ)
  | .While t b els p => cond els.isEmpty (match r.tr fe t lc σ with
    | some (some true, σ) => (match exs r fe b lc σ with
       | some (.next, lc, σ) => r.ex fe (.While t b [] p) lc σ
       | _ => .none)
    | some (some false, σ) => some (.next, lc, σ)
    | _ => .none) .none
  | .For t it body els p => cond (els.isEmpty && !isSet it) (exFor T r fe t it body p.line lc σ) .none
  | .Assign ts e _ => cond (isCmp e) .none (match one ts with
    | some t => exAsg T r fe t e lc σ
    | .none => .none)
  | .AugAssign t op e _ => exAug T r fe t op e lc σ
  | .Raise eo co _ => match eo with
    | some e => match co with
      | .none => wn σ fun n => gx lc (r.ev fe e lc σ) fun v σ' => exRaise n v lc σ'
      | some _ => .none
    | .none => .none
  | _ => .none
noncomputable def lineS : Stmt → Option Nat
  | .Assign _ _ p => some p.line
  | .Expr _ p => some p.line
  | _ => .none
noncomputable def bmp (T : ITab) (s : Stmt) (σ : AS) : AS := match lineS s with
  | some l => wn σ fun n => cond (Nat.blt n (T.bump l n)) (cond (keysLt n σ.o) ⟨σ.o, T.bump l n⟩ σ) σ
  | .none => σ
noncomputable def stp (T : ITab) (r : Rc) : Rc := ⟨ev1 T r, tr1 T r, fun fe s lc σ => ex1 T r fe s lc (bmp T s σ), call1 T r⟩
noncomputable def run (T : ITab) : Nat → Rc
  | 0 => ⟨fun _ _ _ _ => .none, fun _ _ _ _ => .none, fun _ _ _ _ => .none, fun _ _ _ => .none⟩
  | n + 1 => stp T (run T n)
end Mine
end

section
open PySem PySem.W PyProof.Rows PySem.Calls
set_option Elab.async false
set_option maxRecDepth 100000
set_option linter.unusedVariables false
namespace Mine
theorem nlEq_iff : ∀ {a b : List Nat}, nlEq a b = true ↔ a = b
  | [], [] => ⟨fun _ => rfl, fun _ => rfl⟩
  | [], _ :: _ => ⟨fun h => (nomatch h), fun h => (nomatch h)⟩
  | _ :: _, [] => ⟨fun h => (nomatch h), fun h => (nomatch h)⟩
  | a :: r, b :: t => by
    simp only [nlEq_1, nlEq_2, List.cons.injEq]
    cases h : Nat.beq a b with
    | true => simp only [cond_true]; rw [nlEq_iff]; have := Nat.eq_of_beq_eq_true h; simp [this]
    | false => simp only [cond_false]; have := Nat.ne_of_beq_eq_false h; simp [this]
theorem sEq_iff {a b : Str} : sEq a b = true ↔ a = b := by
  unfold sEq; rw [nlEq_iff]
  obtain ⟨⟨a⟩⟩ := a; obtain ⟨⟨b⟩⟩ := b
  simp
theorem sEq_self (a : Str) : sEq a a = true := sEq_iff.mpr rfl
theorem sEq_ne {a b : Str} (h : sEq a b = false) : a ≠ b := fun e => by rw [sEq_iff.mpr e] at h; cases h
theorem sEq_beq (a b : Str) : sEq a b = (a == b) := by
  cases h : sEq a b with
  | true => exact (beq_iff_eq.mpr (sEq_iff.mp h)).symm
  | false => exact (Bool.eq_false_iff.mpr fun q => sEq_ne h (beq_iff_eq.mp q)).symm
theorem lk_eq {α : Type} : ∀ (l : List (Str × α)) (x : Str), lk l x = l.lookup x
  | [], _ => rfl
  | (y, v) :: r, x => by
    simp only [lk_1, lk_2, List.lookup]
    rw [sEq_beq, BEq.comm, lk_eq r x]
    cases x == y <;> rfl

section rels
variable (n : Nat) (ρ : Nat → Addr)
noncomputable def VR : AV → Value → Prop
  | .none, v => v = .none
  | .bool b, v => v = .bool b
  | .int k, v => ∃ t, v = .int k t
  | .str x, v => ∃ t, v = .str x t
  | .id i, v => i < n ∧ v = .ref (ρ i)
  | .glob a, v => v = .ref a
  | .bi x, v => v = .builtin x.nm
  | .ty x, v => v = .type x.nm
  | .num c k, v => (∃ t, v = .int k t) ∧ clsOf k = c
  | .dr c k, v => (∃ t, v = .int k t) ∧ clsOf (k - 2) = c ∧ k ≠ 13
noncomputable def LR : List AV → List Value → Prop
  | [], [] => True
  | a :: as, v :: vs => VR n ρ a v ∧ LR as vs
  | _, _ => False
noncomputable def FR : Lc → List DictEntry → Prop
  | [], [] => True
  | (x, a) :: fs, e :: es => (∃ t, e.key = .str x t) ∧ VR n ρ a e.val ∧ FR fs es
  | _, _ => False
noncomputable def KR : Lc → List (Str × Value) → Prop
  | [], [] => True
  | (x, a) :: fs, (y, v) :: es => y = x ∧ VR n ρ a v ∧ KR fs es
  | _, _ => False
end rels
noncomputable def CLR (n : Nat) (ρ : Nat → Addr) : List (Str × Nat) → List (Str × Addr) → Prop
  | [], [] => True
  | (x, i) :: r, (y, c) :: t => y = x ∧ i < n ∧ c = ρ i ∧ CLR n ρ r t
  | _, _ => False
noncomputable def fnD (nm q : Str) (ps : Arguments) (b : FuncBody) (cs : Scope) (cl : List (Str × Addr)) (pm cd ct doc : Value) : FuncData := { name := nm, qualname := q, params := ps, body := b, scope := cs, globals := mainGlobals, closure := cl, defaults := .none, kwdefaults := .none, doc := doc, pyModule := pm, annotations := none, code := cd, closureTuple := ct, builtins := builtinsNs }
/-- the entries of a code table -/
noncomputable def TPs : List (Nat × Nat) → List Value → Prop
  | [], [] => True
  | (l, c) :: r, v :: u :: z :: t => v = rawInt (Int.ofNat l) ∧ u = rawInt (Int.ofNat c) ∧ (∃ a, z = .ref a) ∧ TPs r t
  | _, _ => False
noncomputable def NsObj (o : Obj) (m : Str → Option Value) : Prop := ∃ es ep, o.data = .dict es ep ∧ StrKeys es ∧ ∀ name, nsFind es name = m name
noncomputable def LcR (n : Nat) (ρ : Nat → Addr) (lc : Lc) (m : Str → Option Value) : Prop := ∀ x a, lk lc x = some a → ∃ v, m x = some v ∧ VR n ρ a v
noncomputable def hv (sc : List Int) (k m : Nat) : Int := if k < sc.length then sc.getD k 0 % m else 0
noncomputable def DV (a : AV) (k : Int) : Prop := ∀ t, VR 0 (fun _ => 0) a (.int k t)
noncomputable def QR (sc : List Int) : Nat → List (AV × Nat) → Prop
  | _, [] => True
  | k, (r, m) :: q => 0 < m ∧ DV r (hv sc k m) ∧ QR sc (k + 1) q
noncomputable def rawExc (C t : Addr) : Obj := { cls := .ref C, data := .fields #[.ref t, .none, .none, .none, .bool false, .none] }
noncomputable def tupObj (its : List Value) : Obj := { cls := .type "tuple", data := .seq its.toArray }
section
variable (prog : Program) (w : World) (sc : List Int)
noncomputable def OR (n : Nat) (ρ : Nat → Addr) : AO → Obj → Prop
  | .inst C d, o => d < n ∧ o = instObj C (ρ d)
  | .dict fs, o => ∃ es k, o = dictOf es k ∧ FR n ρ fs es
  | .dct fs, o => ∃ kvs, o.IsDictOf (PySem.strKind prog w) kvs ∧ KR n ρ fs kvs
  | .list xs, o => ∃ its e, o = W.listOf its e ∧ LR n ρ xs its.toList
  | .tup xs, o => ∃ its, o = tupObj its ∧ LR n ρ xs its
  | .cell .none, o => o.data = .cell .none
  | .cell (some a), o => ∃ v, o.data = .cell (some v) ∧ VR n ρ a v
  | .cart l q, o => l < n ∧ ∃ (k : Nat) (t : Tok) (kvs : List (Str × Value)), o.IsDictOf (PySem.strKind prog w) kvs ∧ kvs = [(Str.ofString "of", Value.ref (ρ l)), (Str.ofString "at", Value.int (Int.ofNat k) t)] ∧ QR sc k q
  | .opq, o => ∃ its e, o = W.listOf its e ∧ IntsAre its.toList sc
  | .scr, o => ∃ its e ns, o = W.listOf its e ∧ IntsAre its.toList ns ∧ ns.length ≤ 900 ∧ sc = ns.take 30
  | .rng k, o => k ≤ 900 ∧ ∃ t u v, o = { cls := .type "range", data := .fields #[.int 0 t, .int (Int.ofNat k) u, .int 1 v] }
  | .itR i k, o => i ≤ k ∧ k ≤ 900 ∧ o = { cls := .type "range_iterator", data := .fields #[rawInt (Int.ofNat i), rawInt (Int.ofNat (k - i)), rawInt 1] }
  | .itL l i, o => l < n ∧ o.cls = .type "list_iterator" ∧ o.data = .fields #[.ref (ρ l), .int (Int.ofNat i) 0]
  | .ns lc, o => ∃ m, NsObj o m ∧ LcR n ρ lc m
  | .ctab l, o => ∃ ps : Array Value, o = tabObj ps ∧ TPs l ps.toList
  | .code q, o => ∃ vs t, o.data = .fields vs ∧ vs[1]? = some (.str q t)
  | .fn ps b cs cl q c, o => c < n ∧ ∃ nm pm ct doc cl', o = { cls := .type "function", data := .func (fnD nm q ps b cs cl' pm (.ref (ρ c)) ct doc) } ∧ CLR n ρ cl cl'
  | .exc .none, o => ∃ t, o = rawExc 70 t
  | .exc (some d), o => d < n ∧ ∃ t, o = { rawExc 70 t with dict := some (ρ d) }
end
noncomputable def Ext (n : Nat) (ρ ρ' : Nat → Addr) : Prop := ∀ i, i < n → ρ' i = ρ i
section
variable {n n' : Nat} {ρ ρ' : Nat → Addr} (hn : n ≤ n') (hx : Ext n ρ ρ')
include hn hx
theorem VR.mono {a : AV} {v : Value} (h : VR n ρ a v) : VR n' ρ' a v := by
  cases a <;> first | exact h | exact ⟨Nat.lt_of_lt_of_le h.1 hn, by rw [hx _ h.1]; exact h.2⟩
theorem LR.mono : ∀ {as : List AV} {vs : List Value}, LR n ρ as vs → LR n' ρ' as vs
  | [], [], _ => trivial
  | _ :: _, _ :: _, h => ⟨VR.mono hn hx h.1, LR.mono h.2⟩
  | [], _ :: _, h => h.elim
  | _ :: _, [], h => h.elim
theorem FR.mono : ∀ {as : Lc} {vs : List DictEntry}, FR n ρ as vs → FR n' ρ' as vs
  | [], [], _ => trivial
  | _ :: _, _ :: _, h => ⟨h.1, VR.mono hn hx h.2.1, FR.mono h.2.2⟩
  | [], _ :: _, h => h.elim
  | _ :: _, [], h => h.elim
theorem KR.mono : ∀ {as : Lc} {vs : List (Str × Value)}, KR n ρ as vs → KR n' ρ' as vs
  | [], [], _ => trivial
  | _ :: _, _ :: _, h => ⟨h.1, VR.mono hn hx h.2.1, KR.mono h.2.2⟩
  | [], _ :: _, h => h.elim
  | _ :: _, [], h => h.elim
theorem CLR.mono : ∀ {l : List (Str × Nat)} {c : List (Str × Addr)}, CLR n ρ l c → CLR n' ρ' l c
  | [], [], _ => trivial
  | (x, i) :: _, (y, c) :: _, h => ⟨h.1, Nat.lt_of_lt_of_le h.2.1 hn, by rw [hx _ h.2.1]; exact h.2.2.1, CLR.mono h.2.2.2⟩
  | [], _ :: _, h => h.elim
  | _ :: _, [], h => h.elim
theorem LcR.mono {lc : Lc} {m : Str → Option Value} (h : LcR n ρ lc m) : LcR n' ρ' lc m := fun x a e => let ⟨v, h1, h2⟩ := h x a e; ⟨v, h1, h2.mono hn hx⟩
theorem OR.mono {prog : Program} {w : World} {sc : List Int} {a : AO} {o : Obj} (h : OR prog w sc n ρ a o) : OR prog w sc n' ρ' a o := by
  cases a with
  | inst C d => exact ⟨Nat.lt_of_lt_of_le h.1 hn, by rw [hx _ h.1]; exact h.2⟩
  | dict fs => obtain ⟨es, k, e, f⟩ := h; exact ⟨es, k, e, FR.mono hn hx f⟩
  | dct fs => obtain ⟨kvs, e, f⟩ := h; exact ⟨kvs, e, KR.mono hn hx f⟩
  | list xs => obtain ⟨its, e, h1, h2⟩ := h; exact ⟨its, e, h1, LR.mono hn hx h2⟩
  | tup xs => obtain ⟨its, h1, h2⟩ := h; exact ⟨its, h1, LR.mono hn hx h2⟩
  | cell v => cases v with
    | none => exact h
    | some v => obtain ⟨u, h1, h2⟩ := h; exact ⟨u, h1, VR.mono hn hx h2⟩
  | cart l q => obtain ⟨h0, k, t, kvs, h1, h2, h3⟩ := h; exact ⟨Nat.lt_of_lt_of_le h0 hn, k, t, kvs, h1, by rw [hx _ h0]; exact h2, h3⟩
  | opq => exact h
  | scr => exact h
  | rng k => exact h
  | itR i k => exact h
  | itL l i => obtain ⟨h0, h1, h2⟩ := h; exact ⟨Nat.lt_of_lt_of_le h0 hn, h1, by rw [hx _ h0]; exact h2⟩
  | ns lc => obtain ⟨m, h1, h2⟩ := h; exact ⟨m, h1, LcR.mono hn hx h2⟩
  | ctab l => exact h
  | code q => exact h
  | fn ps b cs cl q c => obtain ⟨h0, nm, pm, ct, doc, cl', h1, h2⟩ := h; exact ⟨Nat.lt_of_lt_of_le h0 hn, nm, pm, ct, doc, cl', by rw [hx _ h0]; exact h1, CLR.mono hn hx h2⟩
  | exc d => cases d with
    | none => exact h
    | some d => obtain ⟨h0, t, h1⟩ := h; exact ⟨Nat.lt_of_lt_of_le h0 hn, t, by rw [hx _ h0]; exact h1⟩
end

theorem get_put (σ : AS) (i j : Nat) (a : AO) (hi : i < σ.n) : (σ.put i a).get j = if j = i then some a else σ.get j := by
  unfold AS.put AS.get
  simp only [fnd_cons, fnd_nil]
  by_cases e : j = i
  · subst e
    rw [if_pos rfl, (show Nat.blt j σ.n = true from Nat.ble_eq_true_of_le hi), cond_true, Nat.beq_refl, cond_true]
  · rw [if_neg e]
    have : Nat.beq i j = false := by
      cases q : Nat.beq i j with
      | false => rfl
      | true => exact absurd (Nat.eq_of_beq_eq_true q).symm e
    rw [this, cond_false]
theorem get_new (σ : AS) (j : Nat) (a : AO) : (σ.new a).get j = if j = σ.n then some a else σ.get j := by
  unfold AS.new AS.get
  simp only [fnd_cons, fnd_nil]
  by_cases e : j = σ.n
  · subst e
    rw [if_pos rfl, (show Nat.blt σ.n (σ.n + 1) = true from Nat.ble_eq_true_of_le (Nat.lt_succ_self _)), cond_true, Nat.beq_refl, cond_true]
  · rw [if_neg e]
    have : Nat.beq σ.n j = false := by
      cases q : Nat.beq σ.n j with
      | false => rfl
      | true => exact absurd (Nat.eq_of_beq_eq_true q).symm e
    rw [this, cond_false]
    have : Nat.blt j (σ.n + 1) = Nat.blt j σ.n := by
      rw [Bool.eq_iff_iff]
      constructor
      · intro h
        have := Nat.le_of_ble_eq_true h
        exact Nat.ble_eq_true_of_le (by omega)
      · intro h
        have := Nat.le_of_ble_eq_true h
        exact Nat.ble_eq_true_of_le (by omega)
    rw [this]
theorem get_lt {σ : AS} {i : Nat} {a : AO} (h : σ.get i = some a) : i < σ.n := by
  rw [AS.get_def] at h
  cases q : Nat.blt i σ.n with
  | true => exact Nat.le_of_ble_eq_true q
  | false => rw [q] at h; cases h
/-- the id has an object -/
noncomputable def Lv (σ : AS) (i : Nat) : Prop := ∃ a, σ.get i = some a
theorem Lv.lt {σ : AS} {i : Nat} (h : Lv σ i) : i < σ.n := h.elim fun _ e => get_lt e
theorem lv_put {σ : AS} {i j : Nat} {a : AO} (hi : Lv σ i) : Lv (σ.put i a) j ↔ Lv σ j := by
  unfold Lv
  rw [get_put σ i j a hi.lt]
  by_cases e : j = i
  · subst e; rw [if_pos rfl]; exact ⟨fun _ => hi, fun _ => ⟨a, rfl⟩⟩
  · rw [if_neg e]
theorem lv_new {σ : AS} {j : Nat} {a : AO} : Lv (σ.new a) j ↔ j = σ.n ∨ Lv σ j := by
  unfold Lv
  rw [get_new]
  by_cases e : j = σ.n
  · subst e; rw [if_pos rfl]; exact ⟨fun _ => .inl rfl, fun _ => ⟨a, rfl⟩⟩
  · rw [if_neg e]; exact ⟨fun h => .inr h, fun h => h.resolve_left e⟩
@[simp] theorem put_n (σ : AS) (i : Nat) (a : AO) : (σ.put i a).n = σ.n := rfl
@[simp] theorem new_n (σ : AS) (a : AO) : (σ.new a).n = σ.n + 1 := rfl
end Mine
end

section
open PySem PySem.W PyProof.Rows PySem.Calls
set_option Elab.async false
set_option maxRecDepth 100000
set_option linter.unusedVariables false
namespace Mine
abbrev Fs := List (Addr × (Str → Option Value))
noncomputable def upd (ρ : Nat → Addr) (n : Nat) (x : Addr) : Nat → Addr := fun i => if i = n then x else ρ i
theorem upd_ext (ρ : Nat → Addr) (n : Nat) (x : Addr) : Ext n ρ (upd ρ n x) := fun i hi => by unfold upd; rw [if_neg (Nat.ne_of_lt hi)]
theorem upd_self (ρ : Nat → Addr) (n : Nat) (x : Addr) : upd ρ n x n = x := if_pos rfl
section
variable (prog : Program) (w : World) (sc : List Int) (h₀ : Heap) (fs : Fs)
structure Sy (σ : AS) (ρ : Nat → Addr) (news : List (Addr × Obj)) : Prop where
  own : ∀ i ao, σ.get i = some ao → ∃ o, (ρ i, o) ∈ news ∧ OR prog w sc σ.n ρ ao o
  inj : ∀ i j, Lv σ i → Lv σ j → ρ i = ρ j → i = j
  nd : (news.map (·.1)).Nodup
  frs : ∀ q ∈ fs, ∃ o, (q.1, o) ∈ news ∧ NsObj o q.2
  sep : ∀ q ∈ fs, ∀ i, Lv σ i → ρ i ≠ q.1
structure Nx (σ : AS) (ρ : Nat → Addr) (news : List (Addr × Obj)) (σ' : AS) (ρ' : Nat → Addr) (news' : List (Addr × Obj)) : Prop where
  le : σ.n ≤ σ'.n
  ext : Ext σ.n ρ ρ'
  lv : ∀ i, i < σ.n → Lv σ' i → Lv σ i
  fresh : ∀ i, σ.n ≤ i → Lv σ' i → ∀ p ∈ news, p.1 ≠ ρ' i
  keep : ∀ p ∈ news, (∀ i, Lv σ i → ρ i ≠ p.1) → (∀ q ∈ fs, q.1 ≠ p.1) → p ∈ news'
  addr : ∀ p ∈ news, ∃ o, (p.1, o) ∈ news'
structure St (L : Addr) (m : Str → Option Value) (σ : AS) (ρ : Nat → Addr) (news : List (Addr × Obj)) (s : Shared) : Prop where
  fr : Fr h₀ L s.heap m
  nw : News h₀ L s.heap news
  sy : Sy prog w sc fs σ ρ news
noncomputable def Sm (s s' : Shared) : Prop := s'.gens = s.gens ∧ s'.drawn = s.drawn ∧ s'.os = s.os
end
theorem Sm.rfl (s : Shared) : Sm s s := ⟨Eq.refl _, Eq.refl _, Eq.refl _⟩
theorem Sm.trans {a b c : Shared} (x : Sm a b) (y : Sm b c) : Sm a c := ⟨y.1.trans x.1, y.2.1.trans x.2.1, y.2.2.trans x.2.2⟩
section
variable {prog : Program} {w : World} {sc : List Int} {h₀ : Heap} {fs : Fs} {L : Addr} {m : Str → Option Value} {σ σ₁ σ₂ : AS} {ρ ρ₁ ρ₂ : Nat → Addr} {news news₁ news₂ : List (Addr × Obj)} {s : Shared}
theorem Nx.refl : Nx fs σ ρ news σ ρ news := ⟨Nat.le_refl _, fun _ _ => Eq.refl _, fun _ _ h => h, fun i h1 h2 => absurd h2.lt (Nat.not_lt.mpr h1), fun p hp _ _ => hp, fun p hp => ⟨p.2, hp⟩⟩
theorem Nx.trans (a : Nx fs σ ρ news σ₁ ρ₁ news₁) (b : Nx fs σ₁ ρ₁ news₁ σ₂ ρ₂ news₂) : Nx fs σ ρ news σ₂ ρ₂ news₂ where
  le := Nat.le_trans a.le b.le
  ext := fun i hi => (b.ext i (Nat.lt_of_lt_of_le hi a.le)).trans (a.ext i hi)
  lv := fun i hi h => a.lv i hi (b.lv i (Nat.lt_of_lt_of_le hi a.le) h)
  fresh := fun i h1 h2 p hp => by
    by_cases h3 : i < σ₁.n
    · rw [b.ext i h3]; exact a.fresh i h1 (b.lv i h3 h2) p hp
    · obtain ⟨o, ho⟩ := a.addr p hp
      exact b.fresh i (Nat.not_lt.mp h3) h2 (p.1, o) ho
  keep := fun p hp h1 h2 => b.keep p (a.keep p hp h1 h2) (fun i hi => by
    by_cases h3 : i < σ.n
    · rw [a.ext i h3]; exact h1 i (a.lv i h3 hi)
    · exact fun e => a.fresh i (Nat.not_lt.mp h3) hi p hp e.symm) h2
  addr := fun p hp => let ⟨o, ho⟩ := a.addr p hp; b.addr (p.1, o) ho
theorem Nx.vr (a : Nx fs σ ρ news σ₁ ρ₁ news₁) {x : AV} {v : Value} (h : VR σ.n ρ x v) : VR σ₁.n ρ₁ x v := h.mono a.le a.ext
theorem Nx.lr (a : Nx fs σ ρ news σ₁ ρ₁ news₁) {x : List AV} {v : List Value} (h : LR σ.n ρ x v) : LR σ₁.n ρ₁ x v := h.mono a.le a.ext

theorem St.of_heap {s' : Shared} (S : St prog w sc h₀ fs L m σ ρ news s) (e : s'.heap = s.heap) : St prog w sc h₀ fs L m σ ρ news s' := ⟨by rw [e]; exact S.fr, by rw [e]; exact S.nw, S.sy⟩
theorem St.get (S : St prog w sc h₀ fs L m σ ρ news s) {i : Nat} {ao : AO} (h : σ.get i = some ao) : ∃ o, (ρ i, o) ∈ news ∧ s.heap.get? (ρ i) = some o ∧ OR prog w sc σ.n ρ ao o := by
  obtain ⟨o, h1, h2⟩ := S.sy.own i ao h
  exact ⟨o, h1, (S.nw _ h1).1, h2⟩

theorem Sy.alloc {x : Addr} {o : Obj} {ao : AO} (S : Sy prog w sc fs σ ρ news) (lt : ∀ p ∈ news, p.1 < x) (ho : OR prog w sc (σ.n + 1) (upd ρ σ.n x) ao o) :
    Sy prog w sc fs (σ.new ao) (upd ρ σ.n x) ((x, o) :: news) ∧ Nx fs σ ρ news (σ.new ao) (upd ρ σ.n x) ((x, o) :: news) := by
  have up := upd_ext ρ σ.n x
  have old : ∀ i, Lv σ i → ρ i < x := fun i hi => by
    obtain ⟨ao, h⟩ := hi
    obtain ⟨o, h1, _⟩ := S.own i ao h
    exact lt _ h1
  refine ⟨⟨fun i a h => ?_, fun i j hi hj e => ?_, ?_, fun q hq => ?_, fun q hq i hi => ?_⟩, Nat.le_succ _, up, fun i hi h => ?_, fun i h1 h2 p hp => ?_, fun p hp _ _ => .tail _ hp, fun p hp => ⟨p.2, .tail _ hp⟩⟩
  · rw [get_new] at h
    by_cases e : i = σ.n
    · rw [if_pos e] at h; cases h; subst e
      exact ⟨o, by rw [upd_self]; exact .head _, ho⟩
    · rw [if_neg e] at h
      obtain ⟨o', h1, h2⟩ := S.own i a h
      exact ⟨o', by rw [up i (get_lt h)]; exact .tail _ h1, OR.mono (Nat.le_succ _) up h2⟩
  · have low : ∀ k, Lv σ k → ρ k < x ∧ k ≠ σ.n ∧ k < σ.n := fun k hk => ⟨old k hk, Nat.ne_of_lt hk.lt, hk.lt⟩
    rcases lv_new.mp hi with e1 | e1 <;> rcases lv_new.mp hj with e2 | e2
    · rw [e1, e2]
    · subst e1; rw [upd_self, up j (low j e2).2.2] at e; exact absurd e.symm (Nat.ne_of_lt (low j e2).1)
    · subst e2; rw [upd_self, up i (low i e1).2.2] at e; exact absurd e (Nat.ne_of_lt (low i e1).1)
    · rw [up i (low i e1).2.2, up j (low j e2).2.2] at e; exact S.inj i j e1 e2 e
  · rw [List.map_cons]
    refine List.nodup_cons.mpr ⟨fun hm => ?_, S.nd⟩
    obtain ⟨p, hp, e⟩ := List.mem_map.mp hm
    exact absurd e (Nat.ne_of_lt (lt p hp))
  · obtain ⟨o', h1, h2⟩ := S.frs q hq; exact ⟨o', .tail _ h1, h2⟩
  · rcases lv_new.mp hi with e | e
    · subst e; rw [upd_self]
      obtain ⟨o', h1, _⟩ := S.frs q hq
      exact Nat.ne_of_gt (lt _ h1)
    · rw [up i e.lt]; exact S.sep q hq i e
  · exact (lv_new.mp h).resolve_left (Nat.ne_of_lt hi)
  · have h2' : i < σ.n + 1 := h2.lt
    have : i = σ.n := by omega
    subst this
    rw [upd_self]
    exact Nat.ne_of_lt (lt p hp)
theorem St.alloc {x : Addr} {o : Obj} {ao : AO} {h' : Heap} {s' : Shared} (S : St prog w sc h₀ fs L m σ ρ news s) (F' : Fr h₀ L h' m) (N' : News h₀ L h' ((x, o) :: news)) (lt : ∀ p ∈ news, p.1 < x) (ho : OR prog w sc (σ.n + 1) (upd ρ σ.n x) ao o) (e : s'.heap = h') :
    St prog w sc h₀ fs L m (σ.new ao) (upd ρ σ.n x) ((x, o) :: news) s' ∧ Nx fs σ ρ news (σ.new ao) (upd ρ σ.n x) ((x, o) :: news) :=
  ⟨⟨by rw [e]; exact F', by rw [e]; exact N', (S.sy.alloc lt ho).1⟩, (S.sy.alloc lt ho).2⟩

noncomputable def Chg (a : Addr) (o' : Obj) (news news' : List (Addr × Obj)) : Prop := (∀ p, p ∈ news' ↔ p = (a, o') ∨ (p ∈ news ∧ p.1 ≠ a)) ∧ news'.map (·.1) = news.map (·.1)
theorem updF_ex {a : Addr} {o : Obj} : ∀ {news : List (Addr × Obj)}, (a, o) ∈ news → (news.map (·.1)).Nodup → ∃ g, UpdF a o news g ∧ ∀ o', Chg a o' news (g o')
  | p :: r, hm, hn => by
    rw [List.map_cons, List.nodup_cons] at hn
    by_cases e : p.1 = a
    · have hr : ∀ q ∈ r, q.1 ≠ a := fun q hq h => hn.1 (by rw [e, ← h]; exact List.mem_map_of_mem hq)
      have : p = (a, o) := by
        rcases List.mem_cons.mp hm with h | h
        · exact h.symm
        · exact absurd rfl (hr _ h)
      subst this
      refine ⟨_, .head hr, fun o' => ⟨fun p => ?_, rfl⟩⟩
      constructor
      · intro h
        rcases List.mem_cons.mp h with h | h
        · exact .inl h
        · exact .inr ⟨.tail _ h, hr p h⟩
      · rintro (h | ⟨h, h'⟩)
        · subst h; exact .head _
        · rcases List.mem_cons.mp h with h | h
          · subst h; exact absurd rfl h'
          · exact .tail _ h
    · have hm' : (a, o) ∈ r := by
        rcases List.mem_cons.mp hm with h | h
        · subst h; exact absurd rfl e
        · exact h
      obtain ⟨g, U, C⟩ := updF_ex hm' hn.2
      refine ⟨_, .tail e U, fun o' => ⟨fun q => ?_, ?_⟩⟩
      · constructor
        · intro h
          rcases List.mem_cons.mp h with h | h
          · subst h; exact .inr ⟨.head _, e⟩
          · rcases (C o').1 q |>.mp h with h | ⟨h, h'⟩
            · exact .inl h
            · exact .inr ⟨.tail _ h, h'⟩
        · rintro (h | ⟨h, h'⟩)
          · exact .tail _ ((C o').1 q |>.mpr (.inl h))
          · rcases List.mem_cons.mp h with h | h
            · subst h; exact .head _
            · exact .tail _ ((C o').1 q |>.mpr (.inr ⟨h, h'⟩))
      · show p.1 :: _ = p.1 :: _
        rw [(C o').2]
theorem upd_of_F {a : Addr} {o : Obj} (o' : Obj) : ∀ {news : List (Addr × Obj)} {g : Obj → List (Addr × Obj)}, UpdF a o news g → Upd a o o' news (g o')
  | _, _, .head h => .head h
  | _, _, .tail h r => .tail h (upd_of_F o' r)
theorem Sy.put {i : Nat} {o' : Obj} {ao : AO} (S : Sy prog w sc fs σ ρ news) (hi : Lv σ i) (C : Chg (ρ i) o' news news₁) (ho : OR prog w sc σ.n ρ ao o') :
    Sy prog w sc fs (σ.put i ao) ρ news₁ ∧ Nx fs σ ρ news (σ.put i ao) ρ news₁ := by
  refine ⟨⟨fun j a h => ?_, fun j k hj hk => S.inj j k ((lv_put hi).mp hj) ((lv_put hi).mp hk), by rw [C.2]; exact S.nd, fun q hq => ?_, fun q hq j hj => S.sep q hq j ((lv_put hi).mp hj)⟩, Nat.le_refl _, fun _ _ => Eq.refl _, fun j _ hj => (lv_put hi).mp hj, fun j h1 h2 => absurd h2.lt (Nat.not_lt.mpr h1), fun p hp h1 _ => ?_, fun p hp => ?_⟩
  · rw [get_put σ i j ao hi.lt] at h
    by_cases e : j = i
    · rw [if_pos e] at h; cases h; subst e
      exact ⟨o', (C.1 _).mpr (.inl rfl), ho⟩
    · rw [if_neg e] at h
      obtain ⟨o, h1, h2⟩ := S.own j a h
      exact ⟨o, (C.1 _).mpr (.inr ⟨h1, fun q => e (S.inj j i ⟨_, h⟩ hi q)⟩), h2⟩
  · obtain ⟨o, h1, h2⟩ := S.frs q hq
    exact ⟨o, (C.1 _).mpr (.inr ⟨h1, fun e => S.sep q hq i hi e.symm⟩), h2⟩
  · exact (C.1 _).mpr (.inr ⟨hp, fun e => h1 i hi e.symm⟩)
  · by_cases e : p.1 = ρ i
    · exact ⟨o', (C.1 _).mpr (.inl (by rw [e]))⟩
    · exact ⟨p.2, (C.1 _).mpr (.inr ⟨hp, e⟩)⟩
theorem St.put {i : Nat} {o' : Obj} {ao : AO} {h' : Heap} {s' : Shared} (S : St prog w sc h₀ fs L m σ ρ news s) (hi : Lv σ i) (C : Chg (ρ i) o' news news₁) (F' : Fr h₀ L h' m) (N' : News h₀ L h' news₁) (ho : OR prog w sc σ.n ρ ao o') (e : s'.heap = h') :
    St prog w sc h₀ fs L m (σ.put i ao) ρ news₁ s' ∧ Nx fs σ ρ news (σ.put i ao) ρ news₁ :=
  ⟨⟨by rw [e]; exact F', by rw [e]; exact N', (S.sy.put hi C ho).1⟩, (S.sy.put hi C ho).2⟩
/-- forget objects, leave ids out -/
theorem St.sub {τ : AS} (S : St prog w sc h₀ fs L m σ ρ news s) (le : σ.n ≤ τ.n) (sub : ∀ i a, τ.get i = some a → σ.get i = some a) : St prog w sc h₀ fs L m τ ρ news s ∧ Nx fs σ ρ news τ ρ news := by
  have lv : ∀ i, Lv τ i → Lv σ i := fun i ⟨a, h⟩ => ⟨a, sub i a h⟩
  refine ⟨⟨S.fr, S.nw, fun i a h => ?_, fun i j hi hj => S.sy.inj i j (lv i hi) (lv j hj), S.sy.nd, S.sy.frs, fun q hq i hi => S.sy.sep q hq i (lv i hi)⟩, le, fun _ _ => Eq.refl _, fun i _ h => lv i h, fun i h1 h2 => absurd (lv i h2).lt (Nat.not_lt.mpr h1), fun p hp _ _ => hp, fun p hp => ⟨p.2, hp⟩⟩
  obtain ⟨o, h1, h2⟩ := S.sy.own i a (sub i a h)
  exact ⟨o, h1, OR.mono le (fun _ _ => Eq.refl _) h2⟩
/-- a part of the objects is worked on, the rest stands -/
theorem St.merge {π π' τ : AS} {ρ' : Nat → Addr} {news' : List (Addr × Obj)} {s' : Shared} {m' : Str → Option Value} (S : St prog w sc h₀ fs L m σ ρ news s) (le : σ.n ≤ π.n) (sub : ∀ i a, π.get i = some a → σ.get i = some a)
    (S' : St prog w sc h₀ fs L m' π' ρ' news' s') (N : Nx fs π ρ news π' ρ' news') (le' : π'.n ≤ τ.n) (from_ : ∀ i a, τ.get i = some a → π'.get i = some a ∨ (¬ Lv π i ∧ σ.get i = some a)) :
    St prog w sc h₀ fs L m' τ ρ' news' s' ∧ Nx fs σ ρ news τ ρ' news' := by
  have leN : σ.n ≤ π'.n := Nat.le_trans le N.le
  have ext : Ext σ.n ρ ρ' := fun i hi => N.ext i (Nat.lt_of_lt_of_le hi le)
  have old : ∀ i a, ¬ Lv π i → σ.get i = some a → ∃ o, (ρ i, o) ∈ news ∧ (ρ i, o) ∈ news' ∧ OR prog w sc σ.n ρ a o := fun i a hn h => by
    obtain ⟨o, h1, h2⟩ := S.sy.own i a h
    refine ⟨o, h1, N.keep _ h1 (fun j hj e => ?_) (fun q hq e => S.sy.sep q hq i ⟨a, h⟩ e.symm), h2⟩
    obtain ⟨b, hb⟩ := hj
    have := S.sy.inj j i ⟨b, sub j b hb⟩ ⟨a, h⟩ e
    subst this
    exact hn ⟨b, hb⟩
  have lvo : ∀ i, i < σ.n → Lv π' i → Lv π i := fun i hi h => N.lv i (Nat.lt_of_lt_of_le hi le) h
  have cross : ∀ i j a, Lv π' i → ¬ Lv π j → σ.get j = some a → ρ' i = ρ' j → False := fun i j a hi hn hj e => by
    have hjn := get_lt hj
    rw [ext j hjn] at e
    by_cases h3 : i < π.n
    · obtain ⟨b, hb⟩ := N.lv i h3 hi
      rw [N.ext i h3] at e
      have := S.sy.inj i j ⟨b, sub i b hb⟩ ⟨a, hj⟩ e
      subst this
      exact hn ⟨b, hb⟩
    · obtain ⟨o, h1, _, _⟩ := old j a hn hj
      exact N.fresh i (Nat.not_lt.mp h3) hi _ h1 e.symm
  refine ⟨⟨S'.fr, S'.nw, fun i a h => ?_, fun i j hi hj e => ?_, S'.sy.nd, S'.sy.frs, fun q hq i hi => ?_⟩, Nat.le_trans leN le', ext, fun i hi h => ?_, fun i h1 h2 p hp => ?_, fun p hp h1 h2 => N.keep p hp (fun i ⟨a, h⟩ => h1 i ⟨a, sub i a h⟩) h2, N.addr⟩
  · rcases from_ i a h with h1 | ⟨h1, h2⟩
    · obtain ⟨o, g1, g2⟩ := S'.sy.own i a h1
      exact ⟨o, g1, OR.mono le' (fun _ _ => Eq.refl _) g2⟩
    · obtain ⟨o, _, g1, g2⟩ := old i a h1 h2
      exact ⟨o, by rw [ext i (get_lt h2)]; exact g1, OR.mono (Nat.le_trans leN le') ext g2⟩
  · obtain ⟨a, ha⟩ := hi
    obtain ⟨b, hb⟩ := hj
    rcases from_ i a ha with h1 | ⟨h1, h2⟩ <;> rcases from_ j b hb with g1 | ⟨g1, g2⟩
    · exact S'.sy.inj i j ⟨a, h1⟩ ⟨b, g1⟩ e
    · exact (cross i j b ⟨a, h1⟩ g1 g2 e).elim
    · exact (cross j i a ⟨b, g1⟩ h1 h2 e.symm).elim
    · rw [ext i (get_lt h2), ext j (get_lt g2)] at e
      exact S.sy.inj i j ⟨a, h2⟩ ⟨b, g2⟩ e
  · obtain ⟨a, ha⟩ := hi
    rcases from_ i a ha with h1 | ⟨h1, h2⟩
    · exact S'.sy.sep q hq i ⟨a, h1⟩
    · rw [ext i (get_lt h2)]; exact S.sy.sep q hq i ⟨a, h2⟩
  · obtain ⟨a, ha⟩ := h
    rcases from_ i a ha with g1 | ⟨g1, g2⟩
    · obtain ⟨b, hb⟩ := lvo i hi ⟨a, g1⟩
      exact ⟨b, sub i b hb⟩
    · exact ⟨a, g2⟩
  · obtain ⟨a, ha⟩ := h2
    rcases from_ i a ha with g1 | ⟨g1, g2⟩
    · by_cases h3 : i < π.n
      · obtain ⟨b, hb⟩ := N.lv i h3 ⟨a, g1⟩
        exact absurd (get_lt (sub i b hb)) (Nat.not_lt.mpr h1)
      · exact N.fresh i (Nat.not_lt.mp h3) ⟨a, g1⟩ p hp
    · exact absurd (get_lt g2) (Nat.not_lt.mpr h1)
end
end Mine
end

section
open PySem PySem.W PyProof.Rows PySem.Calls
set_option Elab.async false
set_option maxRecDepth 100000
set_option linter.unusedVariables false
namespace Mine
section
variable {ρ : Nat → Addr} {h₀ : Heap} {L : Addr} {news : List (Addr × Obj)}
theorem News.low {h : Heap} (N : News h₀ L h news) : ∀ p ∈ news, p.1 < h.objs.size := fun p hp => Heap.lt_size (N p hp).1
theorem none_above {h : Heap} {a : Addr} (x : h.objs.size ≤ a) : h.get? a = none := by
  cases q : h.get? a with
  | none => rfl
  | some o => exact absurd (Heap.lt_size q) (Nat.not_lt.mpr x)
theorem FR.find {n : Nat} {x : Str} {v : AV} : ∀ {fs : Lc} {es : List DictEntry}, FR n ρ fs es → lk fs x = some v → ∃ u, getL x es = some (some u) ∧ VR n ρ v u
  | [], _, _, h => nomatch h
  | (y, b) :: fs, e :: es, h, q => by
    obtain ⟨⟨t, h1⟩, h2, h3⟩ := h
    simp only [lk_1, lk_2] at q
    have hk : e.key.isStr x = sEq y x := by rw [h1, sEq_beq]; rfl
    unfold getL
    rw [List.find?_cons]
    cases c : sEq y x with
    | true =>
      rw [c] at q hk; cases q
      rw [hk]
      exact ⟨_, rfl, h2⟩
    | false =>
      rw [c] at q hk
      rw [hk]
      obtain ⟨u, g1, g2⟩ := FR.find h3 q
      refine ⟨u, ?_, g2⟩
      unfold getL at g1
      dsimp only
      split at g1
      · rename_i z hz; rw [hz]; exact g1
      · split at g1 <;> cases g1
  | _ :: _, [], h, _ => h.elim
theorem FR.len {n : Nat} : ∀ {fs : Lc} {es : List DictEntry}, FR n ρ fs es → es.length = fs.length
  | [], [], _ => rfl
  | (_, _) :: _, _ :: _, h => congrArg (· + 1) (FR.len h.2.2)
  | [], _ :: _, h => h.elim
  | _ :: _, [], h => h.elim
theorem FR.put {n : Nat} {x : Str} {v : AV} {u : Value} {hsh : Int} {t : Tok} (hv : VR n ρ v u) : ∀ {fs : Lc} {es : List DictEntry}, FR n ρ fs es → FR n ρ (pt x v fs) (putL x hsh (.str x t) u es)
  | [], [], _ => ⟨⟨t, rfl⟩, hv, trivial⟩
  | (y, b) :: fs, e :: es, h => by
    obtain ⟨⟨t', h1⟩, h2, h3⟩ := h
    have hk : e.key.isStr x = sEq y x := by rw [h1, sEq_beq]; rfl
    simp only [pt_1, pt_2, putL]
    rw [hk]
    cases c : sEq y x with
    | true => exact ⟨⟨t', h1⟩, hv, h3⟩
    | false => exact ⟨⟨t', h1⟩, h2, FR.put hv h3⟩
  | [], _ :: _, h => h.elim
  | _ :: _, [], h => h.elim
theorem FR.some_ {n : Nat} {x : Str} : ∀ {fs : Lc} {es : List DictEntry}, FR n ρ fs es → (getL x es).isSome = true := by
  intro fs es h
  unfold getL
  split
  · rfl
  · have : es.any (·.refKey) = false := by
      rename_i hh
      clear hh
      induction es generalizing fs with
      | nil => rfl
      | cons e es ih =>
        cases fs with
        | nil => exact h.elim
        | cons q fs =>
          obtain ⟨y, b⟩ := q
          obtain ⟨⟨t, h1⟩, _, h3⟩ := h
          rw [List.any_cons, ih h3, Bool.or_false]
          unfold DictEntry.refKey
          rw [h1]
    rw [this]; rfl
theorem pt_len {α : Type} {x : Str} {v : α} : ∀ {fs : List (Str × α)}, (pt x v fs).length ≤ fs.length + 1
  | [] => Nat.le_refl _
  | (y, u) :: fs => by
    simp only [pt_1, pt_2]
    cases sEq y x with
    | true => simp
    | false => simp only [cond_false, List.length_cons]; have := pt_len (x := x) (v := v) (fs := fs); omega
end
end Mine
end

section
open PySem PySem.W PyProof.Rows PySem.Calls
set_option Elab.async false
set_option maxRecDepth 100000
set_option maxHeartbeats 0
set_option linter.unusedVariables false
namespace Mine
section
variable {prog : Program} {w : World} {A : Around} {R : Result → Shared → Prop} {h : Heap} {g : Array GenState} {d : Drawn} {t : Nat} {os : OsState} {K : Frag}
variable {nm q : Str} {C N : Addr} {bs bm bmB : List Value} {hdct : Bool} {sn : List Str} {sub : List Value} {ab : Bool} {col : Option Bool} {dd : Option Addr} {k0 k1 k2 k3 k5 : Option Value} {B newId initId : String}
theorem exc_check (F : ExcBaseFacts B newId initId bmB) (hB : bm.contains (.type B) = true) {rest : List Value} {Q : Unit → Shared → Prop} {M : Model} {E : Value → Shared → Prop} (hC : h.get? C = some (excClassObj nm q C N bs bm hdct sn sub ab col dd k0 k1 k2 k3 k5 newId)) (hq : Q () ⟨h, g, d, t, os⟩) :
    wpAny M A (checkBuiltinCall newId ⟨.ref C :: rest, []⟩) Q E ⟨h, g, d, t, os⟩ := by
  have hcont : (Value.ref C :: bm).contains (.type B) = true := by rw [List.contains_cons, hB, Bool.or_true]
  have e1 := F.noStar
  simp only [checkBuiltinCall, F.newKind, F.newSplit, F.newRow]
  repeat (first | refine wpAny_loadPart_at hC ?_ | (refine wpAny_isSubtype_exc hC ?_; rw [hcont]) | refine wpAny_staticBase_exc hC ?_ | refine wpAny_madeBy_exc hC ?_ | simp only [bne_self_eq_false, Bool.false_eq_true, if_false] | wp_step)
  exact hq
theorem exc_new (F : ExcBaseFacts B newId initId bmB) (hB : bm.contains (.type B) = true) (hA : bm.contains (.type "AttributeError") = false) (hN : bm.contains (.type "NameError") = false) {rest : List Value} (hC : h.get? C = some (excClassObj nm q C N bs bm hdct sn sub ab col dd k0 k1 k2 k3 k5 newId))
    (hrest : rest.length ≤ sizeLine) (hq : R (.ok (.ret (.ref (h.objs.size + 1)))) ⟨(h.push { cls := .type "tuple", data := .seq rest.toArray }).push (rawExc C h.objs.size), g, d, t, os⟩) :
    codeAny (model prog w) A (.builtin newId ⟨.ref C :: rest, []⟩) R ⟨h, g, d, t, os⟩ := by
  have e1 := F.ends
  have hcB : (Value.ref C :: bm).contains (.type B) = true := by rw [List.contains_cons, hB, Bool.or_true]
  have hcA : (Value.ref C :: bm).contains (.type "AttributeError") = false := by rw [List.contains_cons, hA]; rfl
  have hcN : (Value.ref C :: bm).contains (.type "NameError") = false := by rw [List.contains_cons, hN]; rfl
  refine codeAny_builtinAt F.entry ?_
  unfold Builtin.«BaseException.__new__»
  refine PySem.wpAt_bind ?_
  show PySem.wpAt _ _ _ (stack >>= _) _ _ _
  refine PySem.wpAt_bind (PySem.wpAt_stack fun p below => PySem.wpAt_of_wpAny ?_)
  wp_walk
  refine PySem.wpAt_of_wpAny ?_
  rw [F.owner]
  repeat (first | with_reducible refine wpAny_madeHere_exc F.canon hC ?_ | with_reducible refine wpAny_loadPart_at hC ?_ | (with_reducible refine wpAny_isSubtype_exc hC ?_; first | rw [hcB] | rw [hcA] | rw [hcN]) | wp_step)
  show R _ _
  rw [Heap.size_push]
  exact hq
theorem exc_core (F : ExcBaseFacts B newId initId bmB) (hB : bm.contains (.type B) = true) (hA : bm.contains (.type "AttributeError") = false) (hN : bm.contains (.type "NameError") = false) {rest : List Value} {fI : Addr} (X : K.In h)
    (hC : h.get? C = some (excClassObj nm q C N bs bm hdct sn sub ab col dd k0 k1 k2 k3 k5 newId)) (hi : findIn K (.ref C) "__init__" = some (some (.ref fI))) (hf : typeIn K (.ref fI) = some (.type "function")) (hrest : rest.length ≤ sizeLine)
    (hq : codeAny (model prog w) (A.under (.builtin "type.__call__" ⟨.ref C :: rest, []⟩)) (.call (.ref fI) ⟨.ref (h.objs.size + 1) :: rest, []⟩) (InitBack (h.objs.size + 1) R) ⟨(h.push { cls := .type "tuple", data := .seq rest.toArray }).push (rawExc C h.objs.size), g, d, t, os⟩) :
    codeAny (model prog w) A (.call (.ref C) ⟨rest, []⟩) R ⟨h, g, d, t, os⟩ := by
  have f1 := tc_lookup
  have f2 := tc_bind (.ref C)
  have hT : (⟨h, g, d, t, os⟩ : Shared).TypeIs (.ref C) "type" := ⟨_, hC, rfl⟩
  refine codeAny_of_tree ?_
  show wpAny _ _ (callAny (.ref C) _) _ _ _
  repeat (any_goals (first | assumption | with_reducible refine wpAny_loadPart_at hC ?_ | wp_step))
  refine ⟨rfl, ?_⟩
  refine codeAny_call_builtin_at (Code.quiet_builtin _ (by decide +kernel)) entry_typeCall (wpAny_check_type_call_sub hC ?_)
  repeat (first | with_reducible refine wpAny_loadPart_at hC ?_ | with_reducible refine wpAny_madeBy_exc hC ?_ | wp_step)
  refine codeAny_call_builtin_code (Code.quiet_builtin _ F.quiet) (exc_check F hB hC ?_)
  refine exc_new F hB hA hN hC hrest ?_
  show wpAny _ _ _ _ _ _
  have k : ∀ b o, h.get? b = some o → ((h.push { cls := .type "tuple", data := .seq rest.toArray }).push (rawExc C h.objs.size)).get? b = some o := fun b o e => Heap.get?_push_of_some _ (Heap.get?_push_of_some _ e)
  have hC₁ := k _ _ hC
  have X₁ := X.keeps k
  have hget : ((h.push { cls := .type "tuple", data := .seq rest.toArray }).push (rawExc C h.objs.size)).get? (h.objs.size + 1) = some (rawExc C h.objs.size) := by unfold rawExc; heap_get
  have hcC : (Value.ref C :: bm).contains (.ref C) = true := by simp
  unfold isInstance
  repeat (first | with_reducible refine wpAny_loadPart_at hget ?_ | wp_step)
  show wpAny _ _ (isSubtype (.ref C) (.ref C)) _ _ ⟨(h.push { cls := .type "tuple", data := .seq rest.toArray }).push (rawExc C h.objs.size), g, d, t, os⟩
  refine wpAny_isSubtype_exc hC₁ ?_
  rw [hcC]
  have i1 := looks_findIn (M := model prog w) X₁ hi
  have b1 := bind_fn (M := model prog w) X₁ (.ref (h.objs.size + 1)) hf
  have t1 : Looks (model prog w) ((h.push { cls := .type "tuple", data := .seq rest.toArray }).push (rawExc C h.objs.size)) (typeOf (.ref (h.objs.size + 1))) (.ref C) := (Looks.ld hget).andThen .now
  unfold callSpecial? specialOf
  repeat (first | with_reducible refine wpAny_call ?_ | lk)
  refine codeAny_mono hq fun r s' z => ?_
  rcases r with e | (v | _ | _ | _) <;> first | exact z | exact z.elim | skip
  obtain ⟨rfl, z⟩ := z
  exact wpAny_pure (wpAny_pure z)
end
end Mine
end

section
open PySem PySem.W PyProof.Rows PySem.Calls Builtin Builtin.ObjectAttr
set_option Elab.async false
set_option maxRecDepth 100000
set_option maxHeartbeats 0
set_option linter.unusedVariables false
namespace Mine
section
variable {prog : Program} {w : World} {A : Around} {R : Result → Shared → Prop} {K : Frag} {s : Shared} {x C : Addr} {ox : Obj} {od : Option Obj} {cd : ClassData} {name : Str} {tk : Tok} {v : Value}
/-- a store into an object whose classes go up to Exception -/
theorem osx_open (X : K.In s.heap) (I : InstAt s.heap x ox C od) (hc : clsIn K C = some cd) (ne : cd.mro.isEmpty = false) (ho : cd.mro.contains (.type "object") = true) (hr : refuseLoop (.ref x) "__setattr__" cd.mro = pure ()) (ht : takerIn K C name = some none)
    (h : ∀ b, wpAny (model prog w) A.in1 (storeInOwnDict (.ref x) (.ref C) (.str name tk) name v b) (fun fin s' => match fin with | .done f => R (.ok f) s' | .again c' => c'.quiet = true ∧ codeAny (model prog w) A c' R s') (fun e s' => R (.error e) s') s) :
    codeAny (model prog w) A (.call (.builtin "object.__setattr__") ⟨[.ref x, .str name tk, v], []⟩) R s := by
  have SF := PySem.F.store_object
  have sub : Looks (model prog w) s.heap (isInstance (.ref x) (.type "object")) true := I.type.andThen (looks_mroIn X (by unfold mroIn; rw [hc, Option.bind_some, if_neg (by rw [ne]; decide), ho]))
  refine codeAny_call_builtin SF.slot.plain SF.entry (@check_slot (model prog w) _ _ s "object.__setattr__" "object" "__setattr__" (.ref x) [.str name tk, v] [] _ SF.kind SF.split sub (SF.args (.ref x) (.str name tk) v) ?_)
  obtain ⟨attr, ha, hat⟩ := Option.bind_eq_some_iff.mp ht
  have hm : Looks (model prog w) s.heap (mroOf (.ref C)) cd.mro := (looks_clsIn X hc).andThen .now
  have L3 : Looks (model prog w) s.heap (storeTaker? attr) none := by
    cases attr with
    | none => exact .now
    | some a =>
      obtain ⟨b, hb, e⟩ := Option.map_eq_some_iff.mp hat
      cases b with
      | true => cases e
      | false => exact (looks_takesIn X hb).andThen .now
  rw [osa_eq, refuse_eq]
  refine wpAny_bind (wpAny_bind (I.type.here (wpAny_bind (hm.here ?_))))
  rw [hr]
  refine wpAny_pure (wpAny_bind (I.type.here (wpAny_bind ((looks_findIn X ha).here (wpAny_bind (L3.here ?_))))))
  exact h _
theorem refuse_exc (self : Value) : refuseLoop self "__setattr__" [.ref 70, .ref 31, .type "Exception", .type "BaseException", .type "object"] = pure () := by
  rw [refuseLoop_ref, refuseLoop_ref]
  kernel_rfl
theorem store_in {d : Addr} {es : List DictEntry} {n : Nat} {E : Value → Shared → Prop} {Q : Fin → Shared → Prop} (D : s.heap.get? d = some (dictOf es n)) (hl : (getL name es).isSome = true) (hz : (putL name (PyData.keyHash w.params name) (.str name s.toks) v es).length ≤ 1000)
    (h : ∀ h', Heap.SameBut d s.heap h' → h'.get? d = some (dictOf (putL name (PyData.keyHash w.params name) (.str name s.toks) v es) (putN name es n)) → Q (.done (.ret .none)) { s with heap := h', toks := s.toks + 1 }) :
    wpAny (model prog w) A (storeInDict d (.str name tk) name v) Q E s := by
  have pn := putName_dict name (PyData.keyHash w.params name) (.str name s.toks) v es n
  have D' : (s.heap.update d (Obj.putName name (PyData.keyHash w.params name) (.str name s.toks) v)).get? d = some (dictOf (putL name (PyData.keyHash w.params name) (.str name s.toks) v es) (putN name es n)) := by
    rw [← pn]
    exact Heap.get?_update_self _ D (by rw [pn]; rfl)
  unfold storeInDict newKeyGuard
  refine wpAny_bind (wpAny_pure (wpAny_bind ?_))
  unfold nsSet
  refine wpAny_bind (wpAny_bind (wpAny_askSetting (wpAny_pure (wpAny_bind (wpAny_mkText (wpAny_bind (wpAny_loadPart D ?_)))))))
  dsimp only
  have c : (!es.toArray.any (·.key.isStr name) && es.toArray.any (·.refKey)) = false := by
    rw [← Array.any_toList, ← Array.any_toList]
    unfold getL at hl
    split at hl
    · rename_i en he
      rw [List.any_eq_true.mpr ⟨en, List.mem_of_find?_eq_some he, List.find?_some he⟩]; rfl
    · split at hl
      · cases hl
      · rename_i z; rw [Bool.not_eq_true] at z; rw [z, Bool.and_false]
  rw [aRefKeyMayBeTheName_at, c]
  refine wpAny_updatePart D ?_
  refine wpAny_bind (wpAny_lookBehind D' (pastItsLine_dict (by rw [List.size_toArray, sizeLine_eq]; omega)) ?_)
  exact wpAny_pure (h _ (Heap.SameBut.update ..) D')
theorem osx_has (X : K.In s.heap) (hx : s.heap.get? x = some ox) (hcls : ox.cls = .ref C) (hc : clsIn K C = some cd) (hd' : cd.hasDict = true) {d : Addr} (hd : ox.dict = some d) {es : List DictEntry} {n : Nat} (hno : notCls ox = true) (D : s.heap.get? d = some (dictOf es n))
    (ne : cd.mro.isEmpty = false) (ho : cd.mro.contains (.type "object") = true) (hr : refuseLoop (.ref x) "__setattr__" cd.mro = pure ()) (ht : takerIn K C name = some none) (hl : (getL name es).isSome = true) (hz : (putL name (PyData.keyHash w.params name) (.str name s.toks) v es).length ≤ 1000)
    (h : ∀ h', Heap.SameBut d s.heap h' → h'.get? d = some (dictOf (putL name (PyData.keyHash w.params name) (.str name s.toks) v es) (putN name es n)) → R (.ok (.ret .none)) { s with heap := h', toks := s.toks + 1 }) :
    codeAny (model prog w) A (.call (.builtin "object.__setattr__") ⟨[.ref x, .str name tk, v], []⟩) R s := by
  refine osx_open (od := some (dictOf es n)) X ⟨hx, hcls, hno, by rw [hd]; exact D⟩ hc ne ho hr ht fun b => ?_
  obtain ⟨oc, odi, oda, osl⟩ := ox
  dsimp only at hcls hd
  subst hcls hd
  refine wpAny_bind (wpAny_pure (wpAny_bind (wpAny_bind (wpAny_loadPart hx (wpAny_bind ((looks_clsIn X hc).here ?_))))))
  rw [hd']
  refine wpAny_pure (a := some d) ?_
  exact store_in D hl hz fun h' a b => h h' a b
theorem osx_none (X : K.In s.heap) (hx : s.heap.get? x = some ox) (hcls : ox.cls = .ref C) (hc : clsIn K C = some cd) (hd' : cd.hasDict = true) (hd : ox.dict = none) {vs : Array Value} (hda : ox.data = .fields vs)
    (ne : cd.mro.isEmpty = false) (ho : cd.mro.contains (.type "object") = true) (hr : refuseLoop (.ref x) "__setattr__" cd.mro = pure ()) (ht : takerIn K C name = some none)
    (h : ∀ h', Heap.SameBut s.heap.objs.size ((s.heap.push emptyDict).update x fun o => { o with dict := some s.heap.objs.size }) h' → h'.get? s.heap.objs.size = some (dictOf [⟨PyData.keyHash w.params name, .str name s.toks, v⟩] 1) → R (.ok (.ret .none)) { s with heap := h', toks := s.toks + 1 }) :
    codeAny (model prog w) A (.call (.builtin "object.__setattr__") ⟨[.ref x, .str name tk, v], []⟩) R s := by
  refine osx_open (od := none) X ⟨hx, hcls, by unfold notCls; rw [hda], by rw [hd]; trivial⟩ hc ne ho hr ht fun b => ?_
  obtain ⟨oc, odi, oda, osl⟩ := ox
  dsimp only at hcls hd hda
  subst hcls hd hda
  refine wpAny_bind (wpAny_pure (wpAny_bind (wpAny_bind (wpAny_loadPart hx (wpAny_bind ((looks_clsIn X hc).here ?_))))))
  rw [hd']
  dsimp only
  rw [if_neg (by decide), if_neg (show ¬ (!true || !typeHasDict (.ref C)) = true from Bool.false_ne_true)]
  refine wpAny_bind (wpAny_alloc (wpAny_bind ?_))
  have hlt := Heap.lt_size hx
  have hx2 := Heap.get?_push_of_some emptyDict hx
  refine wpAny_update hx2 ?_
  refine wpAny_pure ?_
  have D : ((s.heap.push emptyDict).update x fun o => { o with dict := some s.heap.objs.size }).get? s.heap.objs.size = some (dictOf [] 0) := by
    rw [Heap.get?_update_other _ _ (Nat.ne_of_lt hlt)]
    exact Heap.get?_push_size _ rfl
  exact store_in (s := { s with heap := (s.heap.push emptyDict).update x fun o => { o with dict := some s.heap.objs.size } }) (es := []) (n := 0) D rfl (by show 1 ≤ 1000; omega) fun h' a b => h h' a b
end
end Mine
end

section
open PySem PySem.W PyProof.Rows PySem.Calls
set_option Elab.async false
set_option maxRecDepth 100000
set_option maxHeartbeats 0
set_option linter.unusedVariables false
namespace Mine
section
variable {prog : Program} {w : World} {A : Around} {R : Result → Shared → Prop} {h : Heap} {g : Array GenState} {d : Drawn} {t : Nat} {os : OsState} {K : Frag}
variable {nm q : Str} {C N : Addr} {bs bm bmB : List Value} {hdct : Bool} {sn : List Str} {sub : List Value} {ab : Bool} {col : Option Bool} {dd : Option Addr} {k0 k1 k2 k3 k5 : Option Value} {B newId initId : String}
theorem exc_checkI (F : ExcBaseFacts B newId initId bmB) (hB : bm.contains (.type B) = true) {M : Model} {e : Addr} {oe : Obj} {rest : List Value} {Q : Unit → Shared → Prop} {E : Value → Shared → Prop}
    (hC : h.get? C = some (excClassObj nm q C N bs bm hdct sn sub ab col dd k0 k1 k2 k3 k5 newId)) (he : h.get? e = some oe) (hcls : oe.cls = .ref C) (hq : Q () ⟨h, g, d, t, os⟩) :
    wpAny M A (checkBuiltinCall initId ⟨.ref e :: rest, []⟩) Q E ⟨h, g, d, t, os⟩ := by
  have hcB : (Value.ref C :: bm).contains (.type B) = true := by rw [List.contains_cons, hB, Bool.or_true]
  have hshort := F.noStar
  simp only [checkBuiltinCall, F.initKind, F.initSplit, F.initRow]
  repeat (first | (with_reducible refine wpAny_loadPart_at he ?_; rw [hcls]) | with_reducible refine wpAny_loadPart_at hC ?_ | (with_reducible refine wpAny_isSubtype_exc hC ?_; rw [hcB]) | wp_step)
  refine wpAny_onRaise ?_
  rw [show ∀ (a b : String) (n : Nat), Bind.check ⟨.positional, "*", B, .self, [⟨"args", .varPos, false⟩]⟩ a b n (List.map (fun x => x.fst) ({ pos := Value.ref e :: rest } : Args).kw) = pure () from
    fun a b n => check_star_args _ _ _ _ _ _]
  exact wpAny_pure hq
theorem exc_init (F : ExcBaseFacts B newId initId bmB) (hB : bm.contains (.type B) = true) {e t0 : Addr} {rest : List Value} (hrest : rest.length ≤ sizeLine)
    (hC : h.get? C = some (excClassObj nm q C N bs bm hdct sn sub ab col dd k0 k1 k2 k3 k5 newId)) (he : h.get? e = some { cls := .ref C, data := .fields #[.ref t0, .none, .none, .none, .bool false, .none] })
    (hq : ∀ h', (∀ b o, h.get? b = some o → b ≠ e → h'.get? b = some o) → h'.get? e = some (rawExc C h.objs.size) → R (.ok (.ret .none)) ⟨h', g, d, t, os⟩) :
    codeAny (model prog w) A (.call (.builtin initId) ⟨.ref e :: rest, []⟩) R ⟨h, g, d, t, os⟩ := by
  refine codeAny_call_builtin F.init.plain F.initEntry (exc_checkI F hB hC he rfl ?_)
  wp_walk
  refine hq _ (fun b o hb hne => ?_) ?_
  · rw [Heap.get?_update_other _ _ (Ne.symm hne)]
    exact Heap.get?_push_of_some _ hb
  · rw [Heap.get?_update_self _ (Heap.get?_push_of_some _ he) rfl]
    rfl
end
end Mine
end

section
open PySem PySem.W PyProof.Rows PySem.Calls Builtin Builtin.ObjectAttr
set_option Elab.async false
set_option maxRecDepth 100000
set_option maxHeartbeats 0
set_option linter.unusedVariables false
namespace Mine
section
variable {prog : Program} {w : World} {sc : List Int} {h₀ : Heap} {fs : Fs} {L : Addr} {m : Str → Option Value} {σ : AS} {ρ : Nat → Addr} {news : List (Addr × Obj)} {s s' : Shared} {h' : Heap}
theorem fr_of {h : Heap} {x : Addr} (F : Fr h₀ L h m) (hk : ∀ b o, h.get? b = some o → b ≠ x → h'.get? b = some o) (hx : h₀.get? x = none) (hL : L ≠ x) : Fr h₀ L h' m := by
  obtain ⟨oL, es, ep, a, b, c, d⟩ := F.ns
  exact ⟨⟨oL, es, ep, hk _ _ a hL, b, c, d⟩, fun q o hq => hk _ _ (F.keep _ _ hq) (fun z => by rw [z, hx] at hq; cases hq), F.above⟩
theorem St.change {i : Nat} {ao₀ ao : AO} {o' : Obj} (S : St prog w sc h₀ fs L m σ ρ news s) (hi : σ.get i = some ao₀) (hk : ∀ b o, s.heap.get? b = some o → b ≠ ρ i → h'.get? b = some o) (ho : h'.get? (ρ i) = some o') (hO : OR prog w sc σ.n ρ ao o') (e : s'.heap = h') :
    ∃ news', St prog w sc h₀ fs L m (σ.put i ao) ρ news' s' ∧ Nx fs σ ρ news (σ.put i ao) ρ news' := by
  obtain ⟨o, m1, _⟩ := S.get hi
  obtain ⟨g, U, Ch⟩ := updF_ex m1 S.sy.nd
  have n1 := S.nw _ m1
  have F' := fr_of S.fr hk n1.2.2 (fun z => n1.2.1 z.symm)
  have N' : News h₀ L h' (g o') := fun p hp => by
    rcases (Ch o').1 p |>.mp hp with rfl | ⟨hp, hne⟩
    · exact ⟨ho, n1.2.1, n1.2.2⟩
    · exact ⟨hk _ _ (S.nw p hp).1 hne, (S.nw p hp).2⟩
  obtain ⟨S', X'⟩ := S.put ⟨_, hi⟩ (Ch o') F' N' (ao := ao) (s' := s') hO e
  exact ⟨_, S', X'⟩
theorem St.grow {i : Nat} {ao₀ ao a2 : AO} {o' o2 : Obj} (S : St prog w sc h₀ fs L m σ ρ news s) (hi : σ.get i = some ao₀) (hk : ∀ b o, s.heap.get? b = some o → b ≠ ρ i → h'.get? b = some o) (ho : h'.get? (ρ i) = some o') (h2 : h'.get? s.heap.objs.size = some o2)
    (hO2 : OR prog w sc (σ.n + 1) (upd ρ σ.n s.heap.objs.size) a2 o2) (hO : OR prog w sc (σ.n + 1) (upd ρ σ.n s.heap.objs.size) ao o') (e : s'.heap = h') :
    ∃ news', St prog w sc h₀ fs L m ((σ.new a2).put i ao) (upd ρ σ.n s.heap.objs.size) news' s' ∧ Nx fs σ ρ news ((σ.new a2).put i ao) (upd ρ σ.n s.heap.objs.size) news' := by
  obtain ⟨o, m1, m2, _⟩ := S.get hi
  have hin := get_lt hi
  have n1 := S.nw _ m1
  obtain ⟨Sa, Na⟩ := S.sy.alloc (x := s.heap.objs.size) (o := o2) (ao := a2) (News.low S.nw) hO2
  have ei : upd ρ σ.n s.heap.objs.size i = ρ i := Mine.upd_ext _ _ _ i hin
  have m1' : (upd ρ σ.n s.heap.objs.size i, o) ∈ (s.heap.objs.size, o2) :: news := by rw [ei]; exact .tail _ m1
  obtain ⟨g, U, Ch⟩ := updF_ex m1' Sa.nd
  obtain ⟨Sp, Np⟩ := Sa.put (lv_new.mpr (.inr ⟨_, hi⟩)) (Ch o') (ao := ao) hO
  have F' := fr_of S.fr hk n1.2.2 (fun z => n1.2.1 z.symm)
  have ltL : L < s.heap.objs.size := S.fr.ns.lt
  have N' : News h₀ L h' (g o') := fun p hp => by
    rcases (Ch o').1 p |>.mp hp with rfl | ⟨hp, hne⟩
    · rw [ei]; exact ⟨ho, n1.2.1, n1.2.2⟩
    · rw [ei] at hne
      rcases List.mem_cons.mp hp with rfl | hp
      · exact ⟨h2, Nat.ne_of_gt ltL, none_above (Nat.le_trans S.fr.above (Nat.le_of_lt ltL))⟩
      · exact ⟨hk _ _ (S.nw p hp).1 hne, (S.nw p hp).2⟩
  exact ⟨_, ⟨by rw [e]; exact F', by rw [e]; exact N', Sp⟩, Na.trans Np⟩
end
structure ExcK (K : Frag) (cd : ClassData) (xw : Str → Bool) : Prop where
  at_ : clsIn K 70 = some cd
  dict : cd.hasDict = true
  ne : cd.mro.isEmpty = false
  ob : cd.mro.contains (.type "object") = true
  rf : ∀ x, refuseLoop x "__setattr__" cd.mro = pure ()
  set : findIn K (.ref 70) "__setattr__" = some (some (.builtin "object.__setattr__"))
  tk : ∀ x, xw x = true → takerIn K 70 x = some none
section
variable {prog : Program} {w : World} {sc : List Int} {h₀ : Heap} {K : Frag} {cd : ClassData} {xw : Str → Bool} {A : Around} {fs : Fs} {L : Addr} {m : Str → Option Value} {σ : AS} {ρ : Nat → Addr} {news : List (Addr × Obj)} {s : Shared} {E : Value → Shared → Prop}
theorem set_exc0 (X : K.In h₀) (Y : ExcK K cd xw) (S : St prog w sc h₀ fs L m σ ρ news s) {i : Nat} (hi : σ.get i = some (.exc none)) {name : Str} {v : AV} {u : Value} (hv : VR σ.n ρ v u) (ht : xw name = true) {Q : Unit → Shared → Prop}
    (k : ∀ ρ' news' s', St prog w sc h₀ fs L m ((σ.new (.dict [(name, v)])).put i (.exc (some σ.n))) ρ' news' s' → Nx fs σ ρ news ((σ.new (.dict [(name, v)])).put i (.exc (some σ.n))) ρ' news' → Sm s s' → Q () s') :
    wpAny (model prog w) A (setAttr (.ref (ρ i)) name u) Q E s := by
  obtain ⟨o, m1, m2, t, rfl⟩ := S.get hi
  have X' := X.keeps S.fr.keep
  refine set_plain (od := none) X' ⟨m2, rfl, rfl, trivial⟩ Y.set (osx_none (s := { s with toks := s.toks + 1 }) X' m2 rfl Y.at_ Y.dict rfl (vs := #[.ref t, .none, .none, .none, .bool false, .none]) rfl Y.ne Y.ob (Y.rf _) (Y.tk _ ht) fun h' hsb hd => ?_)
  have lt := Heap.lt_size m2
  have e1 : h'.get? (ρ i) = some { rawExc 70 t with dict := some s.heap.objs.size } := by
    refine (hsb.2 (ρ i) (Nat.ne_of_lt lt)).trans ?_
    exact Heap.get?_update_self _ (Heap.get?_push_of_some _ m2) rfl
  have hk : ∀ b o, s.heap.get? b = some o → b ≠ ρ i → h'.get? b = some o := fun b o hb hne => by
    refine (hsb.2 b (Nat.ne_of_lt (Heap.lt_size hb))).trans ?_
    rw [Heap.get?_update_other _ _ (Ne.symm hne)]
    exact Heap.get?_push_of_some _ hb
  obtain ⟨news', S', N'⟩ := S.grow (s' := { s with heap := h', toks := s.toks + 1 + 1 }) (a2 := .dict [(name, v)]) (ao := .exc (some σ.n)) hi hk e1 hd ⟨_, 1, rfl, ⟨⟨_, rfl⟩, hv.mono (Nat.le_succ _) (Mine.upd_ext _ _ _), trivial⟩⟩ ⟨Nat.lt_succ_self _, t, by rw [upd_self]⟩ rfl
  exact k _ _ _ S' N' ⟨rfl, rfl, rfl⟩
theorem set_exc1 (X : K.In h₀) (Y : ExcK K cd xw) (S : St prog w sc h₀ fs L m σ ρ news s) {i d : Nat} {F : Lc} (hi : σ.get i = some (.exc (some d))) (hd : σ.get d = some (.dict F)) (hl : F.length ≤ 900) {name : Str} {v : AV} {u : Value} (hv : VR σ.n ρ v u) (ht : xw name = true) {Q : Unit → Shared → Prop}
    (k : ∀ news' s', St prog w sc h₀ fs L m (σ.put d (.dict (pt name v F))) ρ news' s' → Nx fs σ ρ news (σ.put d (.dict (pt name v F))) ρ news' → Sm s s' → Q () s') :
    wpAny (model prog w) A (setAttr (.ref (ρ i)) name u) Q E s := by
  obtain ⟨o, m1, m2, hdn, t, rfl⟩ := S.get hi
  obtain ⟨od, n1, n2, es, kk, rfl, fr⟩ := S.get hd
  have X' := X.keeps S.fr.keep
  have fr' := FR.put (hsh := PyData.keyHash w.params name) (t := s.toks + 1) (x := name) hv fr
  refine set_plain (od := some (dictOf es kk)) X' ⟨m2, rfl, rfl, n2⟩ Y.set (osx_has (s := { s with toks := s.toks + 1 }) X' m2 rfl Y.at_ Y.dict rfl rfl n2 Y.ne Y.ob (Y.rf _) (Y.tk _ ht) (FR.some_ fr) (by
    rw [FR.len fr']; have := pt_len (x := name) (v := v) (fs := F); omega) fun h' hsb hdd => ?_)
  obtain ⟨news', S', N'⟩ := S.change (s' := { s with heap := h', toks := s.toks + 1 + 1 }) (ao := .dict (pt name v F)) hd (fun b o hb hne => (hsb.2 b hne).trans hb) hdd ⟨_, _, rfl, fr'⟩ rfl
  exact k _ _ S' N' ⟨rfl, rfl, rfl⟩
end
end Mine
end

section
open PySem PySem.W PyProof.Rows PySem.Calls
set_option Elab.async false
set_option maxRecDepth 100000
set_option maxHeartbeats 0
set_option linter.unusedVariables false
namespace Mine
section
variable {M : Model} {A : Around} {E : Value → Shared → Prop} {env : Env}
variable {nm q : Str} {C N : Addr} {bs bm : List Value} {hdct : Bool} {sn : List Str} {sub : List Value} {ab : Bool} {col : Option Bool} {dd : Option Addr} {k0 k1 k2 k3 k5 : Option Value} {newId : String}
/-- raise e: an object of an own exception class that has a dict -/
theorem raise_made {s : Shared} {x : Sem Value} {Q : Flow → Shared → Prop} (hbase : bm.contains (.type "BaseException") = true) (hh : A.handled = none)
    (h : wpAny M A x (fun v s₁ => ∃ e t d, v = .ref e ∧ s₁.heap.get? C = some (excClassObj nm q C N bs bm hdct sn sub ab col dd k0 k1 k2 k3 k5 newId) ∧
      s₁.heap.get? e = some { rawExc C t with dict := d } ∧ E (.ref e) s₁) E s) :
    wpAny M A (raiseStmt env (some x) none) Q E s := by
  have hcB : (Value.ref C :: bm).contains (.type "BaseException") = true := by rw [List.contains_cons, hbase, Bool.or_true]
  unfold raiseStmt
  refine wpAny_bind (wpAny_mono h (fun v s₁ h₁ => ?_) fun _ _ x => x)
  obtain ⟨e, t, di, rfl, hC, he, hE⟩ := h₁
  unfold rawExc at he
  obtain ⟨hp, g, d, tk, os⟩ := s₁
  repeat (first | with_reducible refine wpAny_loadPart_at he ?_ | with_reducible refine wpAny_loadPart_at hC ?_ | (with_reducible refine wpAny_isSubtype_exc hC ?_; rw [hcB]) | wp_step)
  exact wpAny_raiseNew_none hh hE
end
/-- what the class of the raised ones does -/
structure ExcS (K : Frag) : Prop where
  call : ∀ {prog : Program} {w : World} {A : Around} {R : Result → Shared → Prop} {s : Shared} {rest : List Value}, K.In s.heap → rest.length ≤ sizeLine →
    codeAny (model prog w) (A.under (.builtin "type.__call__" ⟨.ref 70 :: rest, []⟩)) (.call (.ref 67) ⟨.ref (s.heap.objs.size + 1) :: rest, []⟩) (InitBack (s.heap.objs.size + 1) R)
      { s with heap := (s.heap.push { cls := .type "tuple", data := .seq rest.toArray }).push (rawExc 70 s.heap.objs.size) } →
    codeAny (model prog w) A (.call (.ref 70) ⟨rest, []⟩) R s
  init : ∀ {prog : Program} {w : World} {A : Around} {R : Result → Shared → Prop} {s : Shared} {e t0 : Addr} {rest : List Value}, K.In s.heap → rest.length ≤ sizeLine → s.heap.get? e = some (rawExc 70 t0) →
    (∀ h', (∀ b o, s.heap.get? b = some o → b ≠ e → h'.get? b = some o) → h'.get? e = some (rawExc 70 s.heap.objs.size) → R (.ok (.ret .none)) { s with heap := h' }) →
    codeAny (model prog w) A (.call (.builtin "Exception.__init__") ⟨.ref e :: rest, []⟩) R s
  raise : ∀ {prog : Program} {w : World} {A : Around} {E : Value → Shared → Prop} {env : Env} {s : Shared} {x : Sem Value} {Q : Flow → Shared → Prop}, A.handled = none →
    wpAny (model prog w) A x (fun v s₁ => ∃ e t d, v = .ref e ∧ K.In s₁.heap ∧ s₁.heap.get? e = some { rawExc 70 t with dict := d } ∧ E (.ref e) s₁) E s →
    wpAny (model prog w) A (raiseStmt env (some x) none) Q E s
  same : ∀ {prog : Program} {w : World} {A : Around} {E : Value → Shared → Prop} {s : Shared} {e : Addr} {oe : Obj} {Q : Bool → Shared → Prop}, K.In s.heap → s.heap.get? e = some oe → oe.cls = .ref 70 → Q true s →
    wpAny (model prog w) A (excMatches (.ref e) (.ref 70)) Q E s
theorem excS {K : Frag} {nm q : Str} {N : Addr} {bs bm : List Value} {hdct : Bool} {sn : List Str} {sub : List Value} {ab : Bool} {col : Option Bool} {dd : Option Addr} {k0 k1 k2 k3 k5 : Option Value}
    (hC : K.lookup 70 = some (excClassObj nm q 70 N bs bm hdct sn sub ab col dd k0 k1 k2 k3 k5 "Exception.__new__"))
    (hB : bm.contains (.type "Exception") = true) (hA : bm.contains (.type "AttributeError") = false) (hN : bm.contains (.type "NameError") = false) (hBB : bm.contains (.type "BaseException") = true)
    (hi : findIn K (.ref 70) "__init__" = some (some (.ref 67))) (hf : typeIn K (.ref 67) = some (.type "function")) : ExcS K where
  call := fun {prog w A R s rest} X hr hq => exc_core PySem.F.excBase_Exception hB hA hN X (X _ _ hC) hi hf hr hq
  init := fun {prog w A R s e t0 rest} X hr he hq => exc_init PySem.F.excBase_Exception hB hr (X _ _ hC) he hq
  raise := fun {prog w A E env s x Q} hh h => raise_made hBB hh (wpAny_mono h (fun v s₁ ⟨e, t, d, h1, X, h2, h3⟩ => ⟨e, t, d, h1, X _ _ hC, h2, h3⟩) fun _ _ z => z)
  same := fun {prog w A E s e oe Q} X he hc hq => wpAny_excMatches_sub_self (X _ _ hC) he hc hBB hq
end Mine
end

section
open PySem PySem.W PyProof.Rows PySem.Calls
set_option Elab.async false
set_option maxRecDepth 100000
set_option linter.unusedVariables false
namespace Mine
noncomputable def GV (a : AV) (v : Value) : Prop := VR 0 (fun _ => 0) a v
theorem GV.vr {a : AV} {v : Value} (h : GV a v) (n : Nat) (ρ : Nat → Addr) : VR n ρ a v := by
  cases a <;> first | exact h | exact absurd h.1 (Nat.not_lt_zero _)
structure Glb (T : ITab) (K : Frag) (p : Program) (loose : List Str) (mean : ExcName → Option Value) (mg mb : Str → Option Value) (h₀ : Heap) : Prop where
  X : K.In h₀
  top : Top p loose mean mg mb h₀
  tk : T.K = K
  gt : ∀ x a, lk T.gt x = some a → ∃ v, nsIn K mainGlobals x = some (some v) ∧ GV a v
  bt : ∀ x a, lk T.gt x = none → lk T.bt x = some a → ∃ v, nsIn K mainGlobals x = some none ∧ bootBuiltins x = some v ∧ x ≠ "__name__" ∧ GV a v
  rd : ∀ C a, T.rd C a = true → plainGet K C a = true ∧ hasDictIn K C = true ∧ ∃ attr, findIn K (.ref C) a = some attr ∧ noGet K attr = true
  wr : ∀ C a, T.wr C a = true → findIn K (.ref C) "__setattr__" = some (some (.builtin "object.__setattr__")) ∧ plainOver K C = true ∧ takerIn K C a = some none ∧ hasDictIn K C = true
  mth : ∀ C a f, T.mth C a = some f → plainGet K C a = true ∧ findIn K (.ref C) a = some (some (.ref f)) ∧ isFn K (.ref f) = true ∧ keepIn K (.ref f) = true
  mkr : ∀ C f, T.mkr C = some f → makesIn K C = true ∧ findIn K (.ref C) "__init__" = some (some (.ref f)) ∧ isFn K (.ref f) = true
  isi : ∀ t c b, T.isi t c = some b → kitOne K t c = some b
  own : ∀ C, T.own C = true → plainGet K C "__class__" = true ∧ hasDictIn K C = true ∧ findIn K (.ref C) "__class__" = some (some (.builtin "object.__class__")) ∧ specialIn K (.builtin "object.__class__") "__get__" = some (some (.builtin "getset_descriptor.__get__")) ∧ takesIn K (.builtin "object.__class__") = some true ∧ mroIn K C (.type "object") = some true
  ki : ∀ a C, T.ki a = some C → ∃ d es k, K.lookup a = some (instObj C d) ∧ K.lookup d = some (dictOf es k)
  xk : ∃ cd, ExcK K cd T.xwr
  xs : ExcS K
  xp : ∀ fd ps, funK K 67 = some fd → plainAr fd.params = some ps → ps.length ≤ 4
  xw : (findIn K (.ref 70) "__getattribute__" = some (some (.builtin "BaseException.__getattribute__")) ∧ findIn K (.ref 70) "__getattr__" = some none ∧ mroIn K 70 (.type "BaseException") = some true) ∧ hasDictIn K 70 = true ∧ ∃ attr, findIn K (.ref 70) (Str.ofString "word") = some attr ∧ noGet K attr = true
  clm : ∀ C a f, T.clsM C a = some f → keepIn K (.ref f) = true ∧ specialIn K (.ref C) "__getattribute__" = some (some (.builtin "type.__getattribute__")) ∧ ∃ mc, typeIn K (.ref C) = some mc ∧ readsIn K C mc = true ∧ findCls K (.ref C) mc a = some (.val (.ref f))
  tyx : findCls K (.type "Exception") (.type "type") "__init__" = some (.val (.builtin "Exception.__init__"))
  kp : ∀ f, T.kp f = true → keepIn K (.ref f) = true
noncomputable def OutOk (outer : List Env) (fs : Fs) : Prop := outer.map (·.frame) = fs.map (fun q => some q.1) ∧ ∀ e ∈ outer, e.scope.kind = .function
structure AX (A : Around) (env : Env) (outer : List Env) (L : Addr) (fs : Fs) (n : Nat) : Prop where
  fr : A.frames = some (env :: outer)
  out : OutOk outer fs
  frame : env.frame = some L
  kind : env.scope.kind = .function
  hand : A.handled = none
  room : A.depth + 4 * n + 20 < recursionLimit
  un : A.units + 8 * n + 100 < cLine
theorem AX.le {A : Around} {env : Env} {outer : List Env} {L : Addr} {fs : Fs} {n m : Nat} (h : AX A env outer L fs n) (q : m ≤ n) : AX A env outer L fs m := { h with room := Nat.lt_of_le_of_lt (Nat.add_le_add_right (Nat.add_le_add_left (Nat.mul_le_mul_left 4 q) _) 20) h.room, un := Nat.lt_of_le_of_lt (Nat.add_le_add_right (Nat.add_le_add_left (Nat.mul_le_mul_left 8 q) _) 100) h.un }

/- reckonings, with small terms -/
theorem un_lt {u n c m : Nat} (h : u + 8 * n + 100 < c) (hm : m ≤ 100) : u + m < c := Nat.lt_of_le_of_lt (Nat.add_le_add (Nat.le_add_right u (8 * n)) hm) h
theorem rm_lt {d n r : Nat} (h : d + 4 * n + 20 < r) : d < r := Nat.lt_of_le_of_lt (Nat.le_trans (Nat.le_add_right d (4 * n)) (Nat.le_add_right _ 20)) h
theorem dw_le {d a w v e r : Nat} (h : d + (a + v) + e < r) (q : w ≤ v) : d + w + a + e < r :=
  Nat.lt_of_le_of_lt (Nat.add_le_add_right (by rw [Nat.add_right_comm, ← Nat.add_assoc]; exact Nat.add_le_add_left q _) e) h
theorem rm_dn {d n r : Nat} (h : d + 4 * (n + 1) + 20 < r) : d + 1 + 4 * n + 20 < r := dw_le (a := 4 * n) (v := 4) h (by decide)
theorem rm_d1 {d n r : Nat} (h : d + 4 * n + 20 < r) : d + 1 + 4 * n < r := by rw [Nat.add_right_comm]; exact Nat.lt_of_le_of_lt (Nat.add_le_add_left (by decide : 1 ≤ 20) _) h
theorem un_dn {u n c : Nat} (h : u + 8 * (n + 1) + 100 < c) : u + 3 + 8 * n + 100 < c := dw_le (a := 8 * n) (v := 8) h (by decide)
theorem rm_w {d n r w : Nat} (h : d + 4 * (n + 1) + 20 < r) (hw : w ≤ 1) : d + w + 4 * n + 20 < r := dw_le (a := 4 * n) (v := 4) h (Nat.le_trans hw (by decide))
theorem rm_w1 {d n r w : Nat} (h : d + 4 * (n + 1) + 20 < r) (hw : w ≤ 1) : d + w + 1 + 4 * n + 20 < r := dw_le (a := 4 * n) (w := w + 1) (v := 4) h (Nat.succ_le_succ (Nat.le_trans hw (by decide)))
theorem un_w {u n c w : Nat} (h : u + 8 * (n + 1) + 100 < c) (hw : w ≤ 5) : u + w + 8 * n + 100 < c := by omega
theorem un_w3 {u n c w : Nat} (h : u + 8 * (n + 1) + 100 < c) (hw : w ≤ 5) : u + w + 3 + 8 * n + 100 < c := dw_le (a := 8 * n) (w := w + 3) (v := 8) h (Nat.add_le_add_right hw 3)
theorem lt1 {i : Nat} (h : i < 1) : i = 0 := Nat.lt_one_iff.mp h
theorem lt2 {i : Nat} (h : i < 2) : i = 0 ∨ i = 1 := (Nat.lt_succ_iff_lt_or_eq.mp h).elim (fun h => .inl (lt1 h)) .inr
theorem lt3 {i : Nat} (h : i < 3) : i = 0 ∨ i = 1 ∨ i = 2 := (Nat.lt_succ_iff_lt_or_eq.mp h).elim (fun h => (lt2 h).elim .inl fun h => .inr (.inl h)) fun h => .inr (.inr h)
theorem lt4 {i : Nat} (h : i < 4) : i = 0 ∨ i = 1 ∨ i = 2 ∨ i = 3 := (Nat.lt_succ_iff_lt_or_eq.mp h).elim (fun h => (lt3 h).elim .inl fun h => .inr (h.elim .inl fun h => .inr (.inl h))) fun h => .inr (.inr (.inr h))
theorem int_of {k : Int} {n : Nat} (h1 : 0 ≤ k) (h2 : k < (n : Int)) : ∃ i : Nat, k = i ∧ i < n := by
  obtain ⟨i, rfl⟩ := Int.eq_ofNat_of_zero_le h1
  exact ⟨i, rfl, Int.ofNat_lt.mp h2⟩
structure Ex (h₀ : Heap) (fs : Fs) (L : Addr) (fl : Option Addr) (σ : AS) (ρ : Nat → Addr) (news : List (Addr × Obj)) (h : Heap) (ev : Value) (e d : Addr) (oe : Obj) (vs : Array Value) (es : List DictEntry) (k : Nat) (t : Tok) : Prop where
  v : ev = .ref e
  at_ : h.get? e = some oe
  cls : oe.cls = .ref 70
  dict : oe.dict = some d
  data : oe.data = .fields vs
  old : h₀.get? e = none
  out : ∀ p ∈ news, p.1 ≠ e
  notL : e ≠ L
  tr : vs[1]? = some .none ∨ ∃ T oT ts z, vs[1]? = some (.ref T) ∧ h.get? T = some oT ∧ oT.data = .fields ts ∧ ts[3]? = some z ∧ (z = .none ∨ ∃ l, fl = some l ∧ z = rawInt l) ∧ T ≠ e ∧ T ≠ L ∧ (∀ p ∈ news, p.1 ≠ T) ∧ h₀.get? T = none
  mem : (d, dictOf es k) ∈ news
  own : ∀ i, Lv σ i → ρ i ≠ d
  fr : ∀ q ∈ fs, q.1 ≠ d
  word : getL "word" es = some (some (.str "constraint_error" t))
theorem CLR.get {n : Nat} {ρ : Nat → Addr} {x : Str} {i : Nat} : ∀ {l : List (Str × Nat)} {c : List (Str × Addr)}, CLR n ρ l c → lk l x = some i → i < n ∧ c.lookup x = some (ρ i)
  | [], _, _, h => nomatch h
  | (y, j) :: l, (z, c) :: t, h, e => by
    obtain ⟨h1, h2, h3, h4⟩ := h
    subst h1 h3
    simp only [lk_1, lk_2] at e
    simp only [List.lookup]
    have hb : (x == z) = sEq z x := by rw [sEq_beq, BEq.comm]
    cases q : sEq z x with
    | true => rw [q] at e hb; cases e; rw [hb]; exact ⟨h2, rfl⟩
    | false => rw [q] at e hb; rw [hb]; exact h4.get e
  | _ :: _, [], h, _ => h.elim

section
variable (prog : Program) (w : World) (sc : List Int) (h₀ : Heap) (fs : Fs) (L : Addr) (m : Str → Option Value)
noncomputable def Kc {α β : Type} (Rl : Nat → (Nat → Addr) → α → β → Prop) (σ : AS) (ρ : Nat → Addr) (news : List (Addr × Obj)) (s : Shared) (x : Option α × AS) (Q : β → Shared → Prop) (E : Value → Shared → Prop) : Prop :=
  ∀ ρ' news' s', St prog w sc h₀ fs L m x.2 ρ' news' s' → Nx fs σ ρ news x.2 ρ' news' → Sm s s' →
    match x.1 with
    | some a => ∀ b, Rl x.2.n ρ' a b → Q b s'
    | none => ∀ ev e d oe vs es k t, Ex h₀ fs L (some L) x.2 ρ' news' s'.heap ev e d oe vs es k t → (∀ p ∈ news, p.1 ≠ d) → E ev s'
end
noncomputable def BR (_ : Nat) (_ : Nat → Addr) (a b : Bool) : Prop := a = b
section
variable {prog : Program} {w : World} {sc : List Int} {h₀ : Heap} {fs : Fs} {L : Addr} {m : Str → Option Value} {σ σ₁ : AS} {ρ ρ₁ : Nat → Addr} {news news₁ : List (Addr × Obj)} {s s₁ : Shared}
  {α β γ δ : Type} {Rl : Nat → (Nat → Addr) → α → β → Prop} {Rm : Nat → (Nat → Addr) → γ → δ → Prop} {Q : β → Shared → Prop} {E : Value → Shared → Prop}
theorem Nx.old (N : Nx fs σ ρ news σ₁ ρ₁ news₁) {d : Addr} (h : ∀ p ∈ news₁, p.1 ≠ d) : ∀ p ∈ news, p.1 ≠ d := fun p hp => let ⟨o, ho⟩ := N.addr p hp; h (p.1, o) ho
theorem Kc.move {x : Option α × AS} (k : Kc prog w sc h₀ fs L m Rl σ ρ news s x Q E) (N : Nx fs σ ρ news σ₁ ρ₁ news₁) (M : Sm s s₁) : Kc prog w sc h₀ fs L m Rl σ₁ ρ₁ news₁ s₁ x Q E :=
  fun ρ' news' s' S' N' M' => by
    have := k ρ' news' s' S' (N.trans N') (M.trans M')
    obtain ⟨x1, x2⟩ := x
    cases x1 with
    | some a => exact this
    | none => exact fun ev e d oe vs es k t X hf => this ev e d oe vs es k t X (N.old hf)
theorem Kc.done {a : α} {b : β} (k : Kc prog w sc h₀ fs L m Rl σ ρ news s (some a, σ) Q E) (S : St prog w sc h₀ fs L m σ ρ news s₁) (M : Sm s s₁) (h : Rl σ.n ρ a b) : Q b s₁ := k ρ news s₁ S .refl M b h
theorem Kc.done' {a : α} {b : β} (k : Kc prog w sc h₀ fs L m Rl σ ρ news s (some a, σ₁) Q E) (S : St prog w sc h₀ fs L m σ₁ ρ₁ news₁ s₁) (N : Nx fs σ ρ news σ₁ ρ₁ news₁) (M : Sm s s₁) (h : Rl σ₁.n ρ₁ a b) : Q b s₁ := k ρ₁ news₁ s₁ S N M b h
theorem bd_some {y : Rs γ} {f : γ → AS → Rs α} {x : Option α × AS} (h : bd y f = some x) : ∃ z, y = some z ∧ (match z.1 with | some a => f a z.2 = some x | none => x = (none, z.2)) := by
  unfold bd at h
  split at h
  · cases h
  · exact ⟨_, rfl, by cases h; rfl⟩
  · exact ⟨_, rfl, h⟩
theorem lift_some {y : Option α} {x : Option α × AS} (h : lift σ y = some x) : ∃ a, y = some a ∧ x = (some a, σ) := by
  cases y with
  | none => cases h
  | some a => cases h; exact ⟨a, rfl, rfl⟩
theorem Kc.bind {y : Rs γ} {z : Option γ × AS} {f : γ → AS → Rs α} {x : Option α × AS} {Q' : δ → Shared → Prop} (hx : bd y f = some x) (hy : y = some z)
    (k : Kc prog w sc h₀ fs L m Rl σ ρ news s x Q E)
    (h : ∀ a, f a z.2 = some x → ∀ ρ₁ news₁ s₁, St prog w sc h₀ fs L m z.2 ρ₁ news₁ s₁ → Nx fs σ ρ news z.2 ρ₁ news₁ → Sm s s₁ → ∀ b, Rm z.2.n ρ₁ a b → Kc prog w sc h₀ fs L m Rl z.2 ρ₁ news₁ s₁ x Q E → Q' b s₁) :
    Kc prog w sc h₀ fs L m Rm σ ρ news s z Q' E := by
  obtain ⟨z', hz', hz⟩ := bd_some hx
  rw [hy] at hz'
  cases hz'
  intro ρ' news' s' S' N' M'
  obtain ⟨z1, z2⟩ := z
  cases z1 with
  | some a => exact fun b hb => h a hz ρ' news' s' S' N' M' b hb (k.move N' M')
  | none =>
    dsimp only at hz
    subst hz
    exact k ρ' news' s' S' N' M'
end

structure Cf (prog : Program) (w : World) (sc : List Int) (h₀ : Heap) (fs : Fs) (L : Addr) (m : Str → Option Value) (fe : FE) (cl : List (Str × Addr)) (lc : Lc) (σ : AS) (ρ : Nat → Addr) (news : List (Addr × Obj)) (s : Shared) : Prop where
  st : St prog w sc h₀ fs L m σ ρ news s
  lc : LcR σ.n ρ lc m
  cl : CLR σ.n ρ fe.cl cl
section
variable {prog : Program} {w : World} {sc : List Int} {h₀ : Heap} {fs : Fs} {L : Addr} {m : Str → Option Value} {fe : FE} {cl : List (Str × Addr)} {lc : Lc} {σ σ₁ : AS} {ρ ρ₁ : Nat → Addr} {news news₁ : List (Addr × Obj)} {s s₁ : Shared}
theorem Cf.next (C : Cf prog w sc h₀ fs L m fe cl lc σ ρ news s) (S : St prog w sc h₀ fs L m σ₁ ρ₁ news₁ s₁) (N : Nx fs σ ρ news σ₁ ρ₁ news₁) : Cf prog w sc h₀ fs L m fe cl lc σ₁ ρ₁ news₁ s₁ := ⟨S, C.lc.mono N.le N.ext, C.cl.mono N.le N.ext⟩
end
section
variable (prog : Program) (w : World) (sc : List Int) (h₀ : Heap)
noncomputable def SEv (r : Rc) (n : Nat) : Prop := ∀ (fe : FE) (e : Expr) (lc : Lc) (σ : AS) (x : Option AV × AS), r.ev fe e lc σ = some x →
  ∀ (A : Around) (cn : Str) (a : Addr) (ccd : Value) (cl : List (Str × Addr)) (outer : List Env) (fs : Fs) (L : Addr) (m : Str → Option Value) (ρ : Nat → Addr) (news : List (Addr × Obj)) (s : Shared) (Q : Value → Shared → Prop) (E : Value → Shared → Prop),
    AX A (envX cn fe.sc L a ccd cl) outer L fs n → Cf prog w sc h₀ fs L m fe cl lc σ ρ news s → Kc prog w sc h₀ fs L m VR σ ρ news s x Q E → wpAny (model prog w) A (eval e (envX cn fe.sc L a ccd cl)) Q E s
noncomputable def STr (r : Rc) (n : Nat) : Prop := ∀ (fe : FE) (e : Expr) (lc : Lc) (σ : AS) (x : Option Bool × AS), r.tr fe e lc σ = some x →
  ∀ (A : Around) (cn : Str) (a : Addr) (ccd : Value) (cl : List (Str × Addr)) (outer : List Env) (fs : Fs) (L : Addr) (m : Str → Option Value) (ρ : Nat → Addr) (news : List (Addr × Obj)) (s : Shared) (Q : Bool → Shared → Prop) (E : Value → Shared → Prop) (whole : Sem Value),
    AX A (envX cn fe.sc L a ccd cl) outer L fs n → Cf prog w sc h₀ fs L m fe cl lc σ ρ news s → Kc prog w sc h₀ fs L m BR σ ρ news s x Q E → whole = eval e (envX cn fe.sc L a ccd cl) ∨ (match e with | .BoolOp .. => True | _ => False) → wpAny (model prog w) A (PySem.isTrue e (envX cn fe.sc L a ccd cl) whole) Q E s
noncomputable def SCa (r : Rc) (n : Nat) : Prop := ∀ (f : AV) (as : List AV) (σ : AS) (x : Option AV × AS), r.ca f as σ = some x →
  ∀ (A : Around) (env : Env) (outer : List Env) (fs : Fs) (L : Addr) (m : Str → Option Value) (ρ : Nat → Addr) (news : List (Addr × Obj)) (s : Shared) (fv : Value) (vs : List Value) (Q : Value → Shared → Prop) (E : Value → Shared → Prop),
    AX A env outer L fs n → St prog w sc h₀ fs L m σ ρ news s → VR σ.n ρ f fv → LR σ.n ρ as vs → Kc prog w sc h₀ fs L m VR σ ρ news s x Q E → wpAny (model prog w) A (PySem.call fv vs) Q E s
noncomputable def KS (fs : Fs) (L : Addr) (σ : AS) (ρ : Nat → Addr) (news : List (Addr × Obj)) (s : Shared) (x : Fl × Lc × AS) (Q : Flow → Shared → Prop) (E : Value → Shared → Prop) : Prop :=
  ∀ m' ρ' news' s', St prog w sc h₀ fs L m' x.2.2 ρ' news' s' → LcR x.2.2.n ρ' x.2.1 m' → Nx fs σ ρ news x.2.2 ρ' news' → Sm s s' →
    match x.1 with
    | .next => Q .next s'
    | .ret a => ∀ v, VR x.2.2.n ρ' a v → Q (.ret v) s'
    | .exc => ∀ ev e d oe vs es k t, Ex h₀ fs L (some L) x.2.2 ρ' news' s'.heap ev e d oe vs es k t → (∀ p ∈ news, p.1 ≠ d) → E ev s'
noncomputable def SEx (r : Rc) (n : Nat) : Prop := ∀ (fe : FE) (st : Stmt) (lc : Lc) (σ : AS) (x : Fl × Lc × AS), r.ex fe st lc σ = some x →
  ∀ (A : Around) (cn : Str) (a : Addr) (ccd : Value) (cl : List (Str × Addr)) (outer : List Env) (fs : Fs) (L : Addr) (m : Str → Option Value) (ρ : Nat → Addr) (news : List (Addr × Obj)) (s : Shared) (Q : Flow → Shared → Prop) (E : Value → Shared → Prop),
    AX A (envX cn fe.sc L a ccd cl) outer L fs n → Cf prog w sc h₀ fs L m fe cl lc σ ρ news s → KS prog w sc h₀ fs L σ ρ news s x Q E → wpAny (model prog w) A (exec st (envX cn fe.sc L a ccd cl)) Q E s
structure Snd (r : Rc) (n : Nat) : Prop where
  ev : SEv prog w sc h₀ r n
  tr : STr prog w sc h₀ r n
  ex : SEx prog w sc h₀ r n
  ca : SCa prog w sc h₀ r n
end
end Mine
end

section
open PySem PySem.W PyProof.Rows PySem.Calls
set_option Elab.async false
set_option maxRecDepth 100000
set_option linter.unusedVariables false
namespace Mine
section
variable {prog : Program} {w : World} {sc : List Int} {h₀ : Heap} {T : ITab} {K : Frag} {p : Program} {loose : List Str} {mean : ExcName → Option Value} {mg mb : Str → Option Value}
variable {A : Around} {cn : Str} {a : Addr} {ccd : Value} {cl : List (Str × Addr)} {outer : List Env} {fs : Fs} {L : Addr} {m : Str → Option Value} {fe : FE} {lc : Lc} {σ : AS} {ρ : Nat → Addr} {news : List (Addr × Obj)} {s : Shared} {E : Value → Shared → Prop}
theorem star_eq {e : Expr} {es : List Expr} {env : Env} (h : isStar e = false) : starEach (e :: es) env = (false, eval e env) :: starEach es env := by
  cases e <;> first | rfl | cases h
theorem stars_plain {env : Env} {pos : Pos} : ∀ {es : List Expr}, es.all (fun e => !isStar e) = true → (backTo pos (starEach es env)).any (·.1) = false
  | [], _ => rfl
  | e :: es, h => by
    rw [List.all_cons, Bool.and_eq_true] at h
    have h1 : isStar e = false := by simpa using h.1
    rw [star_eq h1]
    have := stars_plain (env := env) (pos := pos) h.2
    simpa [backTo] using this
theorem evs_sound {r : Rc} {n : Nat} (H : SEv prog w sc h₀ r n) {pos : Pos} : ∀ {es : List Expr} {lc : Lc} {σ : AS} {x : Option (List AV) × AS}, evs r fe es lc σ = some x →
    ∀ {ρ : Nat → Addr} {news : List (Addr × Obj)} {s : Shared} {Q : List Value → Shared → Prop}, AX A (envX cn fe.sc L a ccd cl) outer L fs n → Cf prog w sc h₀ fs L m fe cl lc σ ρ news s → Kc prog w sc h₀ fs L m LR σ ρ news s x Q E →
    wpAny (model prog w) A (spliced (backTo pos (starEach es (envX cn fe.sc L a ccd cl)))) Q E s
  | [], lc, σ, x, h, ρ, news, s, Q, ax, C, k => by cases h; exact wpAny_items_nil (k.done C.st (Sm.rfl s) trivial)
  | e :: es, lc, σ, x, h, ρ, news, s, Q, ax, C, k => by
    rw [evs_2] at h
    cases q : isStar e with
    | true => rw [q] at h; cases h
    | false =>
      rw [q, cond_false] at h
      obtain ⟨z, hz, _⟩ := bd_some h
      refine wpAny_items_cons (H fe e lc σ z hz A cn a ccd cl outer fs L m ρ news s _ _ ax C (Kc.bind h hz k fun v hf ρ₁ news₁ s₁ S N M b hb k' => ?_)) (star_eq q)
      obtain ⟨y, hy, _⟩ := bd_some hf
      refine evs_sound H hy ax (C.next S N) (Kc.bind hf hy k' fun vs hg ρ₂ news₂ s₂ S' N' M' bs hbs k'' => ?_)
      cases hg
      exact k''.done S' (Sm.rfl _) ⟨N'.vr hb, hbs⟩

theorem dictAt_get {d : Nat} {F : Lc} (h : dictAt σ d = some F) : σ.get d = some (.dict F) := by
  unfold dictAt at h
  split at h
  · rename_i g; cases h; exact g
  · cases h
theorem dctAt_get {d : Nat} {F : Lc} (h : dctAt σ d = some F) : σ.get d = some (.dct F) := by
  unfold dctAt at h
  split at h
  · rename_i g; cases h; exact g
  · cases h
theorem cellAt_get {d : Nat} {v : AV} (h : cellAt σ d = some v) : σ.get d = some (.cell (some v)) := by
  unfold cellAt at h
  split at h
  · rename_i g; cases h; exact g
  · cases h
theorem kindOf_env (x : Str) : (envX cn fe.sc L a ccd cl).kindOf x = lk fe.sc.names x := (lk_eq _ _).symm
section
variable (G : Glb T K p loose mean mg mb h₀)
include G
theorem name_sound {x : Str} {pos : Pos} {v : AV} {n : Nat} {Q : Value → Shared → Prop} (h : nmOf T fe x lc σ = some v) (ax : AX A (envX cn fe.sc L a ccd cl) outer L fs n) (C : Cf prog w sc h₀ fs L m fe cl lc σ ρ news s)
    (k : ∀ u, VR σ.n ρ v u → Q u s) : wpAny (model prog w) A (eval (.Name x pos) (envX cn fe.sc L a ccd cl)) Q E s := by
  have hk : fe.sc.kind = .function := ax.kind
  unfold nmOf at h
  have dbg : (x == ("__debug__" : Str)) = false := by
    cases q : sEq x (Str.ofString "__debug__") with
    | true => rw [q] at h; cases h
    | false => rw [← sEq_beq]; exact q
  rw [sEq_beq, dbg, cond_false] at h
  unfold nmO at h
  split at h
  · rename_i hq
    obtain ⟨u, h1, h2⟩ := C.lc x v h
    exact nameX_L C.st.fr h1 (k u h2) hk (by rw [kindOf_env]; exact hq) dbg
  · rename_i hq
    split at h
    · rename_i i hi
      obtain ⟨h1, h2⟩ := C.cl.get hi
      obtain ⟨o, m1, m2, m3⟩ := C.st.get (cellAt_get h)
      obtain ⟨u, e1, e2⟩ := m3
      exact nameX_C C.st.nw h2 m1 e1 (k u e2) hk (by rw [kindOf_env]; exact hq) dbg
    · cases h
  · rename_i hq
    obtain ⟨dbc, h⟩ : (x == ("__classdict__" : Str)) = false ∧ (match lk fe.cl x with | some i => cellAt σ i | none => none) = some v := by
      cases q : sEq x (Str.ofString "__classdict__") with
      | true => rw [q] at h; cases h
      | false => rw [q] at h; exact ⟨by rw [← sEq_beq]; exact q, h⟩
    split at h
    · rename_i i hi
      obtain ⟨h1, h2⟩ := C.cl.get hi
      obtain ⟨o, m1, m2, m3⟩ := C.st.get (cellAt_get h)
      obtain ⟨u, e1, e2⟩ := m3
      exact nameX_F C.st.nw h2 m1 e1 (k u e2) hk (by rw [kindOf_env]; exact hq) dbg dbc
    · cases h
  · rename_i hq
    split at h
    · rename_i u hu
      cases h
      obtain ⟨u, e1, e2⟩ := G.gt x v hu
      exact nameX_K C.st.fr G.X (topRead_of G.top) e1 (k u (e2.vr _ _)) hk (by rw [kindOf_env]; exact hq) dbg
    · rename_i hu
      obtain ⟨u, e1, e2, e3, e4⟩ := G.bt x v hu h
      exact nameX_B C.st.fr G.X (topRead_of G.top) e1 e2 e3 (k u (e4.vr _ _)) hk (by rw [kindOf_env]; exact hq) dbg
  · cases h

omit G in
theorem instAt_of {i C d : Nat} {F : Lc} (S : St prog w sc h₀ fs L m σ ρ news s) (hi : σ.get i = some (.inst C d)) (hd : σ.get d = some (.dict F)) :
    ∃ es k, InstAt s.heap (ρ i) (instObj C (ρ d)) C (some (dictOf es k)) ∧ FR σ.n ρ F es ∧ (ρ d, dictOf es k) ∈ news := by
  obtain ⟨o, m1, m2, m3, m4⟩ := S.get hi
  obtain ⟨od, n1, n2, es, k, n3, n4⟩ := S.get hd
  subst m4 n3
  exact ⟨es, k, ⟨m2, rfl, rfl, n2⟩, n4, n1⟩

omit G in
theorem VR.handed {n : Nat} {u : AV} {uv : Value} (h : VR n ρ u uv) (hb : ∀ b, u ≠ .bi b) : handedIn uv = true := by
  cases u with
  | bi b => exact absurd rfl (hb b)
  | none => rw [show uv = _ from h]; rfl
  | bool b => rw [show uv = _ from h]; rfl
  | int b => obtain ⟨t, rfl⟩ := h; rfl
  | num c b => obtain ⟨⟨t, rfl⟩, _⟩ := h; rfl
  | dr c b => obtain ⟨⟨t, rfl⟩, _⟩ := h; rfl
  | str b => obtain ⟨t, rfl⟩ := h; rfl
  | id i => rw [h.2]; rfl
  | glob a => rw [show uv = _ from h]; rfl
  | ty a => rw [show uv = _ from h]; rfl
omit G in
theorem cond_some {α : Type} {c : Bool} {y : Option α} {x : α} (h : cond c y none = some x) : c = true ∧ y = some x := by
  cases c with
  | false => cases h
  | true => exact ⟨rfl, h⟩
theorem getF_sound {v u : AV} {x : Str} {vv : Value} {expr : Bool} {Q : Value → Shared → Prop} (h : getF T σ v x = some u) (S : St prog w sc h₀ fs L m σ ρ news s) (hv : VR σ.n ρ v vv)
    (k : ∀ uv, VR σ.n ρ u uv → Q uv { s with toks := s.toks + 1 }) : wpAny (model prog w) A (getAttr vv x expr) Q E s := by
  unfold getF at h
  split at h
  · rename_i i
    split at h
    · rename_i C d hi
      obtain ⟨q, h⟩ := cond_some h
      split at h
      · rename_i F hd
        have hb : lk F x = some u ∧ ∀ b, u ≠ .bi b := by
          unfold noBi at h
          split at h
          · cases h
          · rename_i hn
            exact ⟨h, fun b e => hn b (by rw [h, e])⟩
        obtain ⟨es, k', I, fr, _⟩ := instAt_of S hi (dictAt_get hd)
        obtain ⟨uv, g1, g2⟩ := FR.find fr hb.1
        obtain ⟨r1, r2, at', r3, r4⟩ := G.rd C x q
        obtain ⟨_, rfl⟩ := hv
        exact get_own S.fr G.X I r1 r2 r3 r4 g1 (g2.handed hb.2) (k uv g2)
      · cases h
    · cases h
  · cases h
theorem setF_sound {v u : AV} {x : Str} {vv uv : Value} {σ' : AS} {Q : Unit → Shared → Prop} (h : setF T σ v x u = some σ') (S : St prog w sc h₀ fs L m σ ρ news s) (hv : VR σ.n ρ v vv) (hu : VR σ.n ρ u uv)
    (k : ∀ ρ' news' s', St prog w sc h₀ fs L m σ' ρ' news' s' → Nx fs σ ρ news σ' ρ' news' → Sm s s' → Q () s') : wpAny (model prog w) A (setAttr vv x uv) Q E s := by
  unfold setF at h
  split at h
  · rename_i i
    split at h
    · rename_i C d hi
      obtain ⟨q, h⟩ := cond_some h
      unfold setD at h
      split at h
      · rename_i F hd
        obtain ⟨q2, h⟩ := cond_some h
        cases h
        have hd := dictAt_get hd
        obtain ⟨es, k', I, fr, mem⟩ := instAt_of S hi hd
        obtain ⟨r1, r2, r3, r4⟩ := G.wr C x q
        obtain ⟨_, rfl⟩ := hv
        obtain ⟨g, U, Ch⟩ := updF_ex mem S.sy.nd
        have len := Nat.le_of_ble_eq_true q2
        have fr' := FR.put (hsh := PyData.keyHash w.params x) (t := s.toks + 1) (x := x) hu fr
        refine set_dict S.fr G.X S.nw I rfl r1 r2 r3 r4 (FR.some_ fr) rfl (upd_of_F _ U) (by rw [FR.len fr']; have := pt_len (x := x) (v := u) (fs := F); omega) fun h' F' N' => ?_
        obtain ⟨S', X'⟩ := S.put ⟨_, hd⟩ (Ch _) F' N' (ao := .dict (pt x u F)) (s' := { s with heap := h', toks := s.toks + 2 }) ⟨_, _, rfl, fr'⟩ rfl
        exact k _ _ _ S' X' ⟨rfl, rfl, rfl⟩
      · cases h
    · rename_i d hi
      obtain ⟨hx, h⟩ := cond_some h
      obtain ⟨cd, Y⟩ := G.xk
      obtain ⟨_, rfl⟩ := hv
      split at h
      · cases h
        exact set_exc0 G.X Y S hi hu hx fun ρ' news' s' => k ρ' news' s'
      · unfold setD at h
        split at h
        · rename_i F hd
          obtain ⟨hl, h⟩ := cond_some h
          cases h
          exact set_exc1 G.X Y S hi (dictAt_get hd) (Nat.le_of_ble_eq_true hl) hu hx fun news' s' => k ρ news' s'
        · cases h
    · cases h
  · cases h
end
end
end Mine
end

section
open PySem PySem.W PyProof.Rows PySem.Calls PySem.SeqAt
set_option Elab.async false
set_option maxRecDepth 100000
set_option linter.unusedVariables false
namespace Mine
noncomputable def KO (prog : Program) (w : World) (sc : List Int) (n : Nat) (ρ : Nat → Addr) (s : Shared) (u : AV) (Q : Value → Shared → Prop) : Prop := ∀ uv s', VR n ρ u uv → s'.heap = s.heap → Sm s s' → Q uv s'
section
variable {prog : Program} {w : World} {sc : List Int} {h₀ : Heap} {T : ITab} {K : Frag} {p : Program} {loose : List Str} {mean : ExcName → Option Value} {mg mb : Str → Option Value}
variable {A : Around} {fs : Fs} {L : Addr} {m : Str → Option Value} {σ : AS} {ρ : Nat → Addr} {news : List (Addr × Obj)} {s : Shared} {E : Value → Shared → Prop}
theorem ibeq (a b : Int) : (a == b) = decide (a = b) := by
  cases h : decide (a = b) with
  | true => exact beq_iff_eq.mpr (of_decide_eq_true h)
  | false => exact Bool.eq_false_iff.mpr fun q => of_decide_eq_false h (beq_iff_eq.mp q)
theorem sm_toks (s : Shared) (k : Nat) : Sm s { s with toks := k } := ⟨rfl, rfl, rfl⟩
theorem LR.nth {n : Nat} : ∀ {xs : List AV} {vs : List Value} {j : Nat} {u : AV}, LR n ρ xs vs → nthR xs j = some u → ∃ v, vs[j]? = some v ∧ VR n ρ u v
  | [], _, _, _, _, h => nomatch h
  | x :: xs, v :: vs, 0, u, h, e => by cases e; exact ⟨v, rfl, h.1⟩
  | x :: xs, v :: vs, j + 1, u, h, e => by
    obtain ⟨v', h1, h2⟩ := LR.nth h.2 e
    exact ⟨v', by simpa using h1, h2⟩
  | _ :: _, [], _, _, h, _ => h.elim
theorem LR.len {n : Nat} : ∀ {xs : List AV} {vs : List Value}, LR n ρ xs vs → vs.length = xs.length
  | [], [], _ => rfl
  | _ :: _, _ :: _, h => congrArg (· + 1) h.2.len
  | [], _ :: _, h => h.elim
  | _ :: _, [], h => h.elim
theorem nth_lt {α : Type} : ∀ {xs : List α} {j : Nat} {u : α}, nthR xs j = some u → j < xs.length
  | [], _, _, h => nomatch h
  | _ :: _, 0, _, _ => Nat.succ_pos _
  | _ :: xs, j + 1, u, h => Nat.succ_lt_succ (nth_lt (xs := xs) h)
theorem tup_at {i : Nat} {xs : List AV} (S : St prog w sc h₀ fs L m σ ρ news s) (h : σ.get i = some (.tup xs)) : ∃ its, IsTup s.heap (ρ i) its ∧ LR σ.n ρ xs its.toList := by
  obtain ⟨o, m1, m2, its, m3, m4⟩ := S.get h
  subst m3
  exact ⟨its.toArray, ⟨_, m2, rfl, _, rfl⟩, m4⟩
theorem list_at {i : Nat} {xs : List AV} (S : St prog w sc h₀ fs L m σ ρ news s) (h : σ.get i = some (.list xs)) : ∃ its, s.heap.IsList (ρ i) its ∧ LR σ.n ρ xs its.toList := by
  obtain ⟨o, m1, m2, its, e, m3, m4⟩ := S.get h
  subst m3
  exact ⟨its, ⟨_, m2, rfl, _, rfl⟩, m4⟩

theorem listAt_get {d : Nat} {F : List AV} (h : listAt σ d = some F) : σ.get d = some (.list F) := by
  unfold listAt at h
  split at h
  · rename_i g; cases h; exact g
  · cases h
theorem eqv_none (d : PyData) : PyData.eqv d .none = (match d with | .none => true | _ => false) := by
  cases d <;> simp [PyData.eqv]
theorem pdF_reads {hp : Heap} {n : Nat} {a : AV} {d : PyData} {v : Value} (h : pdF a = some d) (hv : VR n ρ a v) : (∃ as, Reads hp v d as) ∧ d.canLay0 = true ∧ d.depth = 0 ∧ PyData.eqv d .none = isNone a := by
  unfold pdF at h
  split at h
  · cases h; rw [show v = _ from hv]; exact ⟨⟨_, .none⟩, by simp [PyData.canLay0], by simp [PyData.depth], by rw [eqv_none]; rfl⟩
  · cases h; obtain ⟨t, rfl⟩ := hv; exact ⟨⟨_, .int _ _⟩, by simp [PyData.canLay0], by simp [PyData.depth], by rw [eqv_none]; rfl⟩
  · cases h; obtain ⟨⟨t, rfl⟩, _⟩ := hv; exact ⟨⟨_, .int _ _⟩, by simp [PyData.canLay0], by simp [PyData.depth], by rw [eqv_none]; rfl⟩
  · obtain ⟨hs, h⟩ := cond_some h
    cases h; obtain ⟨t, rfl⟩ := hv; exact ⟨⟨_, .str _ _⟩, by simpa [PyData.canLay0] using hs, by simp [PyData.depth], by rw [eqv_none]; rfl⟩
  · cases h
theorem pdL_reads {hp : Heap} {n k : Nat} {f : AV → Option PyData} (hf : ∀ a d v, f a = some d → VR n ρ a v → (∃ as, Reads hp v d as) ∧ d.canLay0 = true ∧ d.depth ≤ k) : ∀ {xs : List AV} {ds : List PyData} {vs : List Value}, pdL f xs = some ds → LR n ρ xs vs →
    (∃ as, ReadsAll hp vs ds as) ∧ PyData.canLayAll0 ds = true ∧ PyData.depthAll ds ≤ k
  | [], _, [], h, _ => by cases h; exact ⟨⟨_, .nil⟩, by simp [PyData.canLayAll0], by simp [PyData.depthAll]⟩
  | a :: xs, ds, v :: vs, h, r => by
    rw [pdL_2] at h
    split at h
    · rename_i d hd
      split at h
      · rename_i l hl
        cases h
        obtain ⟨⟨as, g1⟩, g2, g3⟩ := hf a d v hd r.1
        obtain ⟨⟨bs, k1⟩, k2, k3⟩ := pdL_reads hf hl r.2
        refine ⟨⟨_, .cons g1 k1⟩, by simp [PyData.canLayAll0, g2, k2], by simp only [PyData.depthAll]; omega⟩
      · cases h
    · cases h
  | [], _, _ :: _, _, h => h.elim
  | _ :: _, _, [], _, h => h.elim
theorem pdA_reads {a : AV} {d : PyData} {v : Value} (S : St prog w sc h₀ fs L m σ ρ news s) (h : pdA σ a = some d) (hv : VR σ.n ρ a v) : (∃ as, Reads s.heap v d as) ∧ d.canLay0 = true ∧ d.depth ≤ 1 ∧ PyData.eqv d .none = isNone a := by
  unfold pdA at h
  split at h
  · rename_i i
    obtain ⟨_, rfl⟩ := hv
    split at h
    · rename_i xs hg
      split at h
      · rename_i l hl
        cases h
        obtain ⟨its, ⟨o, ho, hc, k, hd⟩, R⟩ := tup_at S hg
        obtain ⟨⟨as, g1⟩, g2, g3⟩ := pdL_reads (k := 0) (fun a d v h1 h2 => let ⟨x, y, z, _⟩ := pdF_reads (hp := s.heap) h1 h2; ⟨x, y, Nat.le_of_eq z⟩) hl R
        exact ⟨⟨_, .tuple ho hc hd g1⟩, by simpa [PyData.canLay0] using g2, by simp only [PyData.depth]; omega, by rw [eqv_none]; rfl⟩
      · cases h
    · cases h
  · obtain ⟨x, y, z, u⟩ := pdF_reads (hp := s.heap) h hv
    exact ⟨x, y, by omega, u⟩
theorem pdLs_reads {xs : List AV} {ds : List PyData} {vs : List Value} (S : St prog w sc h₀ fs L m σ ρ news s) (h : pdL (pdA σ) xs = some ds) (r : LR σ.n ρ xs vs) : (∃ as, ReadsAll s.heap vs ds as) ∧ PyData.canLayAll0 ds = true ∧ PyData.depthAll ds ≤ 1 :=
  pdL_reads (fun _ _ _ h1 h2 => let ⟨x, y, z, _⟩ := pdA_reads S h1 h2; ⟨x, y, z⟩) h r
theorem eqLs_sound {i j : Nat} {b : Bool} {Q : Value → Shared → Prop} (h : eqLs σ i j = some b) (S : St prog w sc h₀ fs L m σ ρ news s) (hu : A.units + 64 < cLine) :
    (Q (.bool b) s → wpAny (model prog w) A (compareOp .Eq (.ref (ρ i)) (.ref (ρ j))) Q E s) ∧ (Q (.bool (!b)) s → wpAny (model prog w) A (compareOp .NotEq (.ref (ρ i)) (.ref (ρ j))) Q E s) := by
  unfold eqLs at h
  split at h
  · rename_i xs hx
    split at h
    · rename_i ys hy
      split at h
      · rename_i ds hd
        split at h
        · rename_i es he
          cases h
          obtain ⟨its, ⟨o, o1, o2, k, o3⟩, R⟩ := list_at S (listAt_get hx)
          obtain ⟨jts, ⟨p, p1, p2, k', p3⟩, R'⟩ := list_at S (listAt_get hy)
          obtain ⟨⟨as, a1⟩, a2, a3⟩ := pdLs_reads S hd R
          obtain ⟨⟨bs, b1⟩, b2, b3⟩ := pdLs_reads S he R'
          have sh : ∀ ds, PyData.canLayAll0 ds = true → PyData.depthAll ds ≤ 1 → PySem.SeqAt.shaped (.list ds) = true := fun ds h1 h2 => by
            have h3 : PyData.depth (.list ds) ≤ 64 := by simp only [PyData.depth]; omega
            show (PyData.canLay0 (.list ds) && decide (PyData.depth (.list ds) ≤ 64)) = true
            rw [Bool.and_eq_true]
            exact ⟨by simp only [PyData.canLay0]; exact h1, decide_eq_true h3⟩
          exact ⟨fun q => eq_dataH (Reads.list o1 o2 o3 a1) (Reads.list p1 p2 p3 b1) (sh _ a2 a3) (sh _ b2 b3) hu q, fun q => ne_dataH (Reads.list o1 o2 o3 a1) (Reads.list p1 p2 p3 b1) (sh _ a2 a3) (sh _ b2 b3) hu q⟩
        · cases h
      · cases h
    · cases h
  · cases h
theorem anyN_eq (S : St prog w sc h₀ fs L m σ ρ news s) : ∀ {xs : List AV} {ds : List PyData} {vs : List Value}, pdL (pdA σ) xs = some ds → LR σ.n ρ xs vs → ds.any (fun y => PyData.eqv y .none) = anyN xs
  | [], _, [], h, _ => by cases h; rfl
  | a :: xs, ds, v :: vs, h, r => by
    rw [pdL_2] at h
    split at h
    · rename_i d hd
      split at h
      · rename_i l hl
        cases h
        obtain ⟨_, _, _, e⟩ := pdA_reads S hd r.1
        rw [List.any_cons, e, anyN_eq S hl r.2]
        show _ = cond (isNone a) true (anyN xs)
        cases isNone a <;> rfl
      · cases h
    · cases h
  | [], _, _ :: _, _, h => h.elim
  | _ :: _, _, [], _, h => h.elim
theorem noneIn_sound {u : AV} {b : Bool} {uv : Value} {Q : Value → Shared → Prop} (h : noneIn σ u = some b) (S : St prog w sc h₀ fs L m σ ρ news s) (hu : VR σ.n ρ u uv) (hn : A.units + 64 < cLine) (k : Q (.bool b) s) : wpAny (model prog w) A (compareOp .In .none uv) Q E s := by
  unfold noneIn at h
  split at h
  · obtain ⟨_, rfl⟩ := hu
    split at h
    · rename_i xs hx
      split at h
      · rename_i ds hd
        cases h
        obtain ⟨its, ⟨o, o1, o2, k', o3⟩, R⟩ := list_at S (listAt_get hx)
        obtain ⟨⟨as, a1⟩, a2, a3⟩ := pdLs_reads S hd R
        have := Nat.min_le_left (PyData.depthAll ds) (PyData.depth .none)
        exact PySem.SeqAt.in_list_reads (Reads.list o1 o2 o3 a1) .none a2 (by simp [PyData.canLay0]) (by omega) (by rw [anyN_eq S hd R]; exact k)
      · cases h
    · cases h
  · cases h
theorem idxN_spec : ∀ {xs : List AV} {j k : Nat}, idxN xs j = some k → ∃ i, k = j + i ∧ (∃ a, xs[i]? = some a ∧ isNone a = true) ∧ ∀ m a, m < i → xs[m]? = some a → isNone a = false
  | [], _, _, h => nomatch h
  | a :: r, j, k, h => by
    rw [idxN_2] at h
    cases q : isNone a with
    | true => rw [q] at h; cases h; exact ⟨0, rfl, ⟨a, rfl, q⟩, fun m _ hm => absurd hm (Nat.not_lt_zero _)⟩
    | false =>
      rw [q] at h
      obtain ⟨i, e, ⟨b, e2, e3⟩, e4⟩ := idxN_spec h
      refine ⟨i + 1, by omega, ⟨b, by simpa using e2, e3⟩, fun m c hm hc => ?_⟩
      cases m with
      | zero => cases hc; exact q
      | succ m => exact e4 m c (by omega) (by simpa using hc)
theorem eqv_at (S : St prog w sc h₀ fs L m σ ρ news s) : ∀ {xs : List AV} {ds : List PyData} {vs : List Value} {i : Nat} {a : AV} {v : Value}, pdL (pdA σ) xs = some ds → LR σ.n ρ xs vs → xs[i]? = some a → vs[i]? = some v → PyData.eqv (PySem.SeqAt.readOf s.heap v) .none = isNone a
  | [], _, _, _, _, _, _, _, h, _ => by simp at h
  | _ :: _, _, [], _, _, _, _, r, _, _ => r.elim
  | b :: xs, ds, u :: vs, i, a, v, h, r, e1, e2 => by
    rw [pdL_2] at h
    split at h
    · rename_i d hd
      split at h
      · rename_i l hl
        cases h
        cases i with
        | zero =>
          cases e1; cases e2
          obtain ⟨⟨as, g1⟩, g2, _, e⟩ := pdA_reads S hd r.1
          rw [PySem.SeqAt.readOf_eq g2 g1, e]
        | succ i => exact eqv_at S hl r.2 (by simpa using e1) (by simpa using e2)
      · cases h
    · cases h
theorem idxd_sound {i : Nat} {u : AV} {uv : Value} {x : Option AV × AS} {Q : Value → Shared → Prop} (h : idxd i u σ = some x) (S : St prog w sc h₀ fs L m σ ρ news s) (hu : VR σ.n ρ u uv) (hn : A.units + 64 < cLine) (k : Kc prog w sc h₀ fs L m VR σ ρ news s x Q E) :
    wpAny (model prog w) A (PySem.call (.builtin "list.index") [.ref (ρ i), uv]) Q E s := by
  unfold idxd at h
  obtain ⟨hnn, h⟩ := cond_some h
  split at h
  · rename_i xs hx
    split at h
    · rename_i ds hd
      split at h
      · rename_i kk hk
        obtain ⟨hle, h⟩ := cond_some h
        cases h
        have huv : uv = .none := by
          cases u with
          | none => exact hu
          | _ => cases hnn
        subst huv
        obtain ⟨j, e0, ⟨a, e1, e2⟩, e3⟩ := idxN_spec hk
        rw [Nat.zero_add] at e0
        subst e0
        obtain ⟨o, m1, m2, its, ep, m3, R⟩ := S.get (listAt_get hx)
        subst m3
        obtain ⟨⟨as, a1⟩, a2, a3⟩ := pdLs_reads S hd R
        have hl := R.len
        have hle := Nat.le_of_ble_eq_true hle
        have hj : kk < xs.length := (List.getElem?_eq_some_iff.mp e1).1
        have hs : its.size = xs.length := by rw [← hl, Array.length_toList]
        have hI : s.heap.IsList (ρ i) its := ⟨_, m2, rfl, _, rfl⟩
        have at_ : ∀ q (hq : q < its.size) b, xs[q]? = some b → PyData.eqv (PySem.SeqAt.readOf s.heap its[q]) .none = isNone b := fun q hq b hb => eqv_at S hd R hb (by simp [hq])
        have := Nat.min_le_left (PyData.depthAll ds) (PyData.depth .none)
        refine call_meets PySem.F.slot_list_index hI.typeIs PySem.F.entry_list_index (PySem.F.args_list_index_2 _ _)
          (list_indexAt (ρ i) its ep none #[] .none (fun y => PyData.eqv (PySem.SeqAt.readOf s.heap y) .none) kk (by omega) (by omega) (by rw [at_ kk (by omega) a e1]; exact e2)
            (fun q hq hlt => by
              obtain ⟨b, hb⟩ : ∃ b, xs[q]? = some b := ⟨_, List.getElem?_eq_getElem (by omega)⟩
              rw [at_ q hq b hb]; exact e3 q b hlt hb)) ⟨m2, ?_, k.done (S.of_heap rfl) (sm_toks s _) ⟨_, rfl⟩⟩
        exact PySem.SeqAt.items_eqAt a1 .none a2 (by simp [PyData.canLay0]) (by first | (show A.in1.units + 1 + _ < _; have : A.in1.units = A.units + 1 := rfl; omega) | omega)
      · cases h
    · cases h
  · cases h
theorem LR.append {n : Nat} : ∀ {xs : List AV} {us : List Value} {ys : List AV} {ws : List Value}, LR n ρ xs us → LR n ρ ys ws → LR n ρ (xs ++ ys) (us ++ ws)
  | [], [], _, _, _, h => h
  | _ :: _, _ :: _, _, _, h1, h2 => ⟨h1.1, LR.append h1.2 h2⟩
  | [], _ :: _, _, _, h, _ => h.elim
  | _ :: _, [], _, _, h, _ => h.elim
theorem extd_sound {i : Nat} {u : AV} {uv : Value} {x : Option AV × AS} {Q : Value → Shared → Prop} (h : extd i u σ = some x) (S : St prog w sc h₀ fs L m σ ρ news s) (hu : VR σ.n ρ u uv) (k : Kc prog w sc h₀ fs L m VR σ ρ news s x Q E) :
    wpAny (model prog w) A (PySem.call (.builtin "list.extend") [.ref (ρ i), uv]) Q E s := by
  unfold extd at h
  split at h
  · rename_i j
    obtain ⟨_, rfl⟩ := hu
    split at h
    · rename_i xs hx
      split at h
      · rename_i ys hy
        obtain ⟨hle, h⟩ := cond_some h
        cases h
        have hle := Nat.le_of_ble_eq_true hle
        rw [List.length_append] at hle
        have hgx := listAt_get hx
        obtain ⟨o, m1, m2, its, ep, m3, R⟩ := S.get hgx
        obtain ⟨o', n1, n2, jts, ep', n3, R'⟩ := S.get (listAt_get hy)
        subst m3 n3
        obtain ⟨g, U, Ch⟩ := updF_ex m1 S.sy.nd
        have h1 := R.len
        have h2 := R'.len
        have s1 : its.size = xs.length := by rw [← h1, Array.length_toList]
        have s2 : jts.size = ys.length := by rw [← h2, Array.length_toList]
        have hd : ¬(!its.isEmpty && Builtin.List.listTooLong (its.size + jts.size)) = true := by
          exact extend_door (by rw [sizeLine_eq]; omega)
        by_cases e : jts.toList.length = 0
        · have e0 : jts.toList = [] := List.length_eq_zero_iff.mp e
          have ey : ys = [] := List.length_eq_zero_iff.mp (by omega)
          refine kxn_extend S.fr S.nw n1 e0 (upd_of_F _ U) hd (by rw [sizeLine_eq]; omega) (by rw [sizeLine_eq]; omega) fun h' F' N' => ?_
          obtain ⟨S', X'⟩ := S.put ⟨_, hgx⟩ (Ch _) F' N' (ao := .list (xs ++ ys)) (s' := { s with heap := h' }) ⟨_, _, rfl, by rw [ey, List.append_nil]; exact R⟩ rfl
          exact k.done' S' X' ⟨rfl, rfl, rfl⟩ rfl
        · refine kl_extend S.fr S.nw n1 rfl e (upd_of_F _ U) hd (by rw [sizeLine_eq]; omega) (by rw [sizeLine_eq]; omega) fun h' F' N' => ?_
          obtain ⟨S', X'⟩ := S.put ⟨_, hgx⟩ (Ch _) F' N' (ao := .list (xs ++ ys)) (s' := { s with heap := h' }) ⟨_, _, rfl, R.append R'⟩ rfl
          exact k.done' S' X' ⟨rfl, rfl, rfl⟩ rfl
      · cases h
    · cases h
  · cases h
theorem tk_take {α : Type} : ∀ (n : Nat) (l : List α), tk n l = l.take n
  | 0, l => by simp [tk_1, tk_2, tk_3]
  | _ + 1, [] => by simp [tk_1, tk_2, tk_3]
  | n + 1, a :: r => by simp [tk_1, tk_2, tk_3, tk_take n r]
theorem LR.take {n : Nat} : ∀ (k : Nat) {xs : List AV} {us : List Value}, LR n ρ xs us → LR n ρ (xs.take k) (us.take k)
  | 0, _, _, _ => trivial
  | _ + 1, [], [], _ => trivial
  | k + 1, _ :: _, _ :: _, h => ⟨h.1, LR.take k h.2⟩
  | _ + 1, [], _ :: _, h => h.elim
  | _ + 1, _ :: _, [], h => h.elim
theorem rngOf_sound {u : AV} {uv : Value} {x : Option AV × AS} {Q : Value → Shared → Prop} (h : rngOf σ u = some x) (S : St prog w sc h₀ fs L m σ ρ news s) (hu : VR σ.n ρ u uv) (k : Kc prog w sc h₀ fs L m VR σ ρ news s x Q E) :
    wpAny (model prog w) A (PySem.call (.type "range") [uv]) Q E s := by
  unfold rngOf at h
  split at h
  · split at h
    · obtain ⟨hle, h⟩ := cond_some h
      cases h
      obtain ⟨t, rfl⟩ := hu
      refine call_range_1 ?_
      obtain ⟨S', X'⟩ := S.alloc (ao := .rng _) (S.fr.push _) (News.push S.fr S.nw _) (News.low S.nw) ⟨Nat.le_of_ble_eq_true hle, _, _, _, rfl⟩ (s' := { s with heap := s.heap.push { cls := .type "range", data := .fields #[.int 0 s.toks, .int (Int.ofNat _) t, .int 1 (s.toks + 1)] }, toks := s.toks + 1 + 1 }) rfl
      exact k.done' S' X' ⟨rfl, rfl, rfl⟩ ⟨Nat.lt_succ_self _, by rw [upd_self]⟩
    · cases h
  · cases h
end
end Mine
end

section
open PySem PySem.W PyProof.Rows PySem.Calls
set_option Elab.async false
set_option maxRecDepth 100000
set_option linter.unusedVariables false
namespace Mine
section
variable {prog : Program} {w : World} {sc : List Int} {h₀ : Heap} {T : ITab} {K : Frag} {p : Program} {loose : List Str} {mean : ExcName → Option Value} {mg mb : Str → Option Value}
variable {A : Around} {fs : Fs} {L : Addr} {m : Str → Option Value} {σ : AS} {ρ : Nat → Addr} {news : List (Addr × Obj)} {s : Shared} {E : Value → Shared → Prop}
theorem strsV_vr : ∀ {vs : List Value} {xs : List AV}, strsV vs = some xs → ∀ n ρ, LR n ρ xs vs
  | [], _, h, _, _ => by cases h; trivial
  | v :: vs, xs, h, n, ρ => by
    cases v with
    | str x t =>
      rw [strsV_2] at h
      cases hl : strsV vs with
      | none => rw [hl] at h; cases h
      | some l => rw [hl] at h; cases h; exact ⟨⟨t, rfl⟩, strsV_vr hl n ρ⟩
    | _ => cases h
theorem sub_eq {slice : Expr} {o i : Value} (h : isSl slice = false) : subscripted slice false o i = operate [o, i] (getItem o i) := by
  cases slice <;> first | rfl | cases h
theorem tupK_at (G : Glb T K p loose mean mg mb h₀) {a : Nat} {xs : List AV} (h : tupK T a = some xs) (S : St prog w sc h₀ fs L m σ ρ news s) (n : Nat) (ρ' : Nat → Addr) : ∃ its, IsTup s.heap a its ∧ LR n ρ' xs its.toList := by
  unfold tupK at h
  rw [G.tk] at h
  split at h
  · rename_i o hk
    split at h
    · rename_i its e hc hd
      obtain ⟨oc, od, oda, osl⟩ := o
      dsimp only at hc hd
      subst hc hd
      exact ⟨its, ⟨_, S.fr.keep _ _ (G.X _ _ hk), rfl, _, rfl⟩, strsV_vr h n ρ'⟩
    · cases h
  · cases h
theorem KR.find {n : Nat} {x : Str} {v : AV} : ∀ {fs : Lc} {es : List (Str × Value)}, KR n ρ fs es → lk fs x = some v → ∃ u, valueAt es x = some u ∧ VR n ρ v u
  | [], _, _, h => nomatch h
  | (y, b) :: fs, (z, u) :: es, h, q => by
    obtain ⟨h1, h2, h3⟩ := h
    subst h1
    simp only [lk_1, lk_2] at q
    unfold valueAt
    rw [List.find?_cons]
    cases c : sEq z x with
    | true =>
      rw [c] at q; cases q
      have : z = x := sEq_iff.mp c
      rw [show decide (z = x) = true from decide_eq_true this]
      exact ⟨_, rfl, h2⟩
    | false =>
      rw [c] at q
      rw [show decide (z = x) = false from decide_eq_false (sEq_ne c)]
      exact KR.find h3 q
  | _ :: _, [], h, _ => h.elim
theorem seq_at {j n : Nat} (h : j < n) : seqIndex? (Int.ofNat j) n = some j := by
  have e : (if Int.ofNat j < 0 then Int.ofNat j + (n : Int) else Int.ofNat j) = Int.ofNat j := if_neg (Int.not_lt.mpr (Int.natCast_nonneg j))
  unfold seqIndex?
  rw [e]
  exact if_pos (by rw [Bool.and_eq_true]; exact ⟨decide_eq_true (Int.natCast_nonneg j), decide_eq_true (Int.ofNat_lt.mpr h)⟩)
theorem item_tup {value slice : Expr} {its : Array Value} {xs : List AV} {a : Addr} {j : Nat} {t : Tok} {u : AV} {n : Nat} {Q : Value → Shared → Prop} (hs : isSl slice = false) (I : IsTup s.heap a its) (R : LR n ρ xs its.toList) (h : nthR xs j = some u) (hz : j ≤ 900)
    (k : KO prog w sc n ρ s u Q) : wpAny (model prog w) A (subscriptTail value slice (.ref a) (.int (Int.ofNat j) t)) Q E s := by
  obtain ⟨v, h1, h2⟩ := R.nth h
  have hl := R.len
  have hj := nth_lt h
  refine item_tupleT (l := its.toList) (j := j) (by rw [Array.toArray_toList]; exact I) (by show _ ≤ ((j : Nat) : Int); omega) (by show ((j : Nat) : Int) < _; omega) ?_ h1 (k v s h2 rfl (Sm.rfl s)) (sub_eq hs)
  exact seq_at (hl ▸ hj)

theorem item_lst {value slice : Expr} {its : Array Value} {xs : List AV} {a : Addr} {j : Nat} {t : Tok} {u : AV} {n : Nat} {Q : Value → Shared → Prop} (hs : isSl slice = false) (I : s.heap.IsList a its) (R : LR n ρ xs its.toList)
    (h : nthR xs j = some u) (hz : j ≤ 900) (K : KO prog w sc n ρ s u Q) : wpAny (model prog w) A (subscriptTail value slice (.ref a) (.int (Int.ofNat j) t)) Q E s := by
  obtain ⟨v, h1, h2⟩ := R.nth h
  refine tail_any I.typeIs slot_list_getitem.lookup (wpAny_getItem_list I (by show _ ≤ ((j : Nat) : Int); omega) (by show ((j : Nat) : Int) < _; omega) ?_ (K v s h2 rfl (Sm.rfl s))) (sub_eq hs)
  rw [← h1]
  show its[j]? = its.toList[j]?
  rw [Array.getElem?_toList]
theorem item_sound (G : Glb T K p loose mean mg mb h₀) {value slice : Expr} {v i u : AV} {vv iv : Value} {Q : Value → Shared → Prop} (h : itemOf T σ v i = some u) (hs : isSl slice = false) (S : St prog w sc h₀ fs L m σ ρ news s) (hv : VR σ.n ρ v vv) (hi : VR σ.n ρ i iv)
    (k : KO prog w sc σ.n ρ s u Q) : wpAny (model prog w) A (subscriptTail value slice vv iv) Q E s := by
  unfold itemOf at h
  split at h
  · rename_i kk
    split at h
    · rename_i j
      obtain ⟨q, h⟩ := cond_some h
      have hz := Nat.le_of_ble_eq_true q
      obtain ⟨t, rfl⟩ := hi
      unfold itemN at h
      split at h
      · rename_i a
        obtain ⟨_, rfl⟩ := hv
        split at h
        · rename_i xs hg
          obtain ⟨its, I, R⟩ := tup_at S hg
          exact item_tup hs I R h hz k
        · rename_i xs hg
          obtain ⟨its, I, R⟩ := list_at S hg
          exact item_lst hs I R h hz k
        · cases h
      · rename_i a
        rw [show vv = _ from hv]
        split at h
        · rename_i xs hg
          obtain ⟨its, I, R⟩ := tupK_at G hg S σ.n ρ
          exact item_tup hs I R h hz k
        · cases h
      · cases h
    · cases h
  · rename_i x
    obtain ⟨t, rfl⟩ := hi
    split at h
    · rename_i a
      obtain ⟨_, rfl⟩ := hv
      split at h
      · rename_i F hg
        obtain ⟨o, m1, m2, kvs, m3, m4⟩ := S.get (dctAt_get hg)
        obtain ⟨uv, e1, e2⟩ := KR.find m4 h
        have hD := kda_dict S.nw m1 m3
        exact tail_any hD.typeIs slot_dict_getitem.lookup (wpAny_getItem_of (strKind_is _ _ _ _) hD.mapOf e1 (k uv _ e2 rfl (sm_toks s _))) (sub_eq hs)
      · cases h
    · cases h
  · cases h
theorem strsA_are {n : Nat} : ∀ {xs : List AV} {ys : List Str} {vs : List Value}, strsA xs = some ys → LR n ρ xs vs → StrsAre vs ys
  | [], _, [], h, _ => by cases h; exact .nil
  | x :: xs, ys, v :: vs, h, r => by
    rw [strsA_2] at h
    split at h
    · split at h
      · rename_i l' hl
        cases h
        obtain ⟨⟨t, rfl⟩, r2⟩ := r
        exact .cons _ _ (strsA_are hl r2)
      · cases h
    · cases h
  | [], _, _ :: _, _, h => h.elim
  | _ :: _, _, [], _, h => h.elim
theorem anyS_eq (x : Str) : ∀ ys : List Str, anyS x ys = ys.any (fun y => y == x)
  | [] => rfl
  | y :: r => by
    simp only [anyS_1, anyS_2, List.any_cons]
    rw [sEq_beq, anyS_eq x r]
    cases y == x <;> rfl
theorem inStrs_sound {x : Str} {xs : List AV} {b : Bool} {its : Array Value} {a : Addr} {t : Tok} {n : Nat} {Q : Value → Shared → Prop} (h : inStrs x xs = some b) (I : IsTup s.heap a its) (R : LR n ρ xs its.toList) (k : Q (.bool b) s) :
    wpAny (model prog w) A (compareOp .In (.str x t) (.ref a)) Q E s := by
  unfold inStrs at h
  split at h
  · rename_i ys hy
    cases h
    refine in_tuple_strs I (strsA_are hy R) ?_
    rw [← anyS_eq]; exact k
  · cases h
theorem notinStrs_sound {x : Str} {xs : List AV} {b : Bool} {its : Array Value} {a : Addr} {t : Tok} {n : Nat} {Q : Value → Shared → Prop} (h : inStrs x xs = some b) (I : IsTup s.heap a its) (R : LR n ρ xs its.toList) (k : Q (.bool (!b)) s) :
    wpAny (model prog w) A (compareOp .NotIn (.str x t) (.ref a)) Q E s := by
  unfold inStrs at h
  split at h
  · rename_i ys hy
    cases h
    refine notin_tuple_strs I (strsA_are hy R) ?_
    rw [← anyS_eq]; exact k
  · cases h
theorem isNone_eq {n : Nat} {a : AV} {v : Value} (h : VR n ρ a v) : (v == .none) = isNone a := by
  cases a with
  | none => rw [show v = _ from h]; rfl
  | bool b => rw [show v = _ from h]; rfl
  | int k => obtain ⟨t, rfl⟩ := h; rfl
  | str x => obtain ⟨t, rfl⟩ := h; rfl
  | num c x => obtain ⟨⟨t, rfl⟩, _⟩ := h; rfl
  | dr c x => obtain ⟨⟨t, rfl⟩, _⟩ := h; rfl
  | id i => rw [h.2]; rfl
  | glob a => rw [show v = _ from h]; rfl
  | bi b => rw [show v = _ from h]; rfl
  | ty t => rw [show v = _ from h]; rfl
theorem isNone_is {n : Nat} {a : AV} {v : Value} (h : VR n ρ a v) (q : isNone a = true) : v = .none := by
  have e := isNone_eq h
  rw [q] at e
  exact beq_iff_eq.mp e
theorem cls_geZ (k : Int) : (clsOf k).geZ = decide (0 ≤ k) := by
  unfold clsOf
  split
  · rename_i h; exact (decide_eq_false (by omega)).symm
  · rename_i h
    split <;> exact (decide_eq_true (by omega)).symm
theorem cls_leN (k : Int) : (clsOf k).leN = decide (k ≤ 9) := by
  unfold clsOf
  split
  · rename_i h; exact (decide_eq_true (by omega)).symm
  · rename_i h
    split
    · exact (decide_eq_false (by omega)).symm
    · exact (decide_eq_true (by omega)).symm
theorem cmpEq_sound {v u : AV} {b : Bool} {vv uv : Value} {Q : Value → Shared → Prop} (h : cmpEq σ v u = some b) (S : St prog w sc h₀ fs L m σ ρ news s) (hn : A.units + 64 < cLine) (hv : VR σ.n ρ v vv) (hu : VR σ.n ρ u uv) :
    (Q (.bool b) s → wpAny (model prog w) A (compareOp .Eq vv uv) Q E s) ∧ (Q (.bool (!b)) s → wpAny (model prog w) A (compareOp .NotEq vv uv) Q E s) := by
  unfold cmpEq at h
  split at h
  · split at h
    · cases h; obtain ⟨t, rfl⟩ := hv; obtain ⟨t', rfl⟩ := hu
      exact ⟨fun k => eq_str (by rw [← sEq_beq]; exact k), fun k => ne_str (by rw [bne, ← sEq_beq]; exact k)⟩
    · cases h
  · split at h
    · cases h; obtain ⟨t, rfl⟩ := hv; obtain ⟨t', rfl⟩ := hu
      exact ⟨fun k => eq_int (by rw [ibeq]; exact k), fun k => ne_int (by rw [bne, ibeq]; exact k)⟩
    · cases h
  · split at h
    · rename_i y
      obtain ⟨hy, h⟩ := cond_some h
      cases h
      have hy := of_decide_eq_true hy
      subst hy
      obtain ⟨⟨t, rfl⟩, _, hne⟩ := hv; obtain ⟨t', rfl⟩ := hu
      exact ⟨fun k => eq_int (by rw [ibeq, decide_eq_false hne]; exact k), fun k => ne_int (by rw [bne, ibeq, decide_eq_false hne]; exact k)⟩
    · cases h
  · split at h
    · obtain ⟨_, rfl⟩ := hv
      obtain ⟨_, rfl⟩ := hu
      exact eqLs_sound h S hn
    · cases h
  · cases h
theorem cmpLe_sound {v u : AV} {b : Bool} {vv uv : Value} {Q : Value → Shared → Prop} {n : Nat} (h : cmpLe v u = some b) (hv : VR n ρ v vv) (hu : VR n ρ u uv) (k : Q (.bool b) s) : wpAny (model prog w) A (compareOp .LtE vv uv) Q E s := by
  unfold cmpLe at h
  split at h
  · split at h
    · cases h; obtain ⟨t, rfl⟩ := hv; obtain ⟨t', rfl⟩ := hu; exact le_int k
    · obtain ⟨hy, h⟩ := cond_some h
      have hy := of_decide_eq_true hy
      subst hy
      cases h; obtain ⟨t, rfl⟩ := hv; obtain ⟨⟨t', rfl⟩, rfl⟩ := hu
      rw [cls_geZ] at k
      exact le_int k
    · cases h
  · split at h
    · obtain ⟨hy, h⟩ := cond_some h
      have hy := of_decide_eq_true hy
      subst hy
      cases h; obtain ⟨⟨t', rfl⟩, rfl⟩ := hv; obtain ⟨t, rfl⟩ := hu
      rw [cls_leN] at k
      exact le_int k
    · cases h
  · cases h
theorem cmpGe_sound {v u : AV} {b : Bool} {vv uv : Value} {Q : Value → Shared → Prop} {n : Nat} (h : cmpGe v u = some b) (hv : VR n ρ v vv) (hu : VR n ρ u uv) (k : Q (.bool b) s) : wpAny (model prog w) A (compareOp .GtE vv uv) Q E s := by
  unfold cmpGe at h
  split at h
  · split at h
    · cases h; obtain ⟨t, rfl⟩ := hv; obtain ⟨t', rfl⟩ := hu; exact ge_int k
    · cases h
  · split at h
    · obtain ⟨hy, h⟩ := cond_some h
      have hy := of_decide_eq_true hy
      subst hy
      cases h; obtain ⟨⟨t', rfl⟩, rfl⟩ := hv; obtain ⟨t, rfl⟩ := hu
      rw [cls_geZ] at k
      exact ge_int k
    · cases h
  · cases h
theorem inOf_sound (G : Glb T K p loose mean mg mb h₀) {v u : AV} {b : Bool} {vv uv : Value} {Q : Value → Shared → Prop} (h : inOf T σ v u = some b) (S : St prog w sc h₀ fs L m σ ρ news s) (hn : A.units + 64 < cLine) (hv : VR σ.n ρ v vv) (hu : VR σ.n ρ u uv) :
    (Q (.bool b) s → wpAny (model prog w) A (compareOp .In vv uv) Q E s) ∧ (isNone v = false → Q (.bool (!b)) s → wpAny (model prog w) A (compareOp .NotIn vv uv) Q E s) := by
  unfold inOf at h
  split at h
  · obtain ⟨t, rfl⟩ := hv
    split at h
    · obtain ⟨_, rfl⟩ := hu
      split at h
      · rename_i xs hg
        obtain ⟨its, I, R⟩ := tup_at S hg
        exact ⟨fun k => inStrs_sound h I R k, fun _ k => notinStrs_sound h I R k⟩
      · cases h
    · rw [show uv = _ from hu]
      split at h
      · rename_i xs hg
        obtain ⟨its, I, R⟩ := tupK_at G hg S σ.n ρ
        exact ⟨fun k => inStrs_sound h I R k, fun _ k => notinStrs_sound h I R k⟩
      · cases h
    · cases h
  · rw [show vv = _ from hv]
    exact ⟨fun k => noneIn_sound h S hu hn k, fun z => by cases z⟩
  · cases h
theorem notO_some {x : Option Bool} {b : Bool} (h : notO x = some b) : x = some (!b) := by
  unfold notO at h
  split at h
  · cases h; rw [Bool.not_not]
  · cases h
theorem cmp_sound (G : Glb T K p loose mean mg mb h₀) {op : CmpOp} {v u : AV} {b : Bool} {vv uv : Value} {Q : Value → Shared → Prop} (h : cmpOf T σ op v u = some b) (S : St prog w sc h₀ fs L m σ ρ news s) (hn : A.units + 64 < cLine) (hv : VR σ.n ρ v vv) (hu : VR σ.n ρ u uv) (k : Q (.bool b) s) :
    wpAny (model prog w) A (compareOp op vv uv) Q E s := by
  cases op with
  | Is => obtain ⟨q, h⟩ := cond_some h; cases h; rw [isNone_is hu q]; refine is_none ?_; rw [isNone_eq hv]; exact k
  | IsNot => obtain ⟨q, h⟩ := cond_some h; cases h; rw [isNone_is hu q]; refine isNot_none ?_; rw [isNone_eq hv]; exact k
  | Eq => exact (cmpEq_sound h S hn hv hu).1 k
  | NotEq => exact (cmpEq_sound (notO_some h) S hn hv hu).2 (by rw [Bool.not_not]; exact k)
  | LtE => exact cmpLe_sound h hv hu k
  | GtE => exact cmpGe_sound h hv hu k
  | Lt =>
    replace h : cmpLt v u = some b := h
    unfold cmpLt at h
    split at h
    · split at h
      · cases h; obtain ⟨t, rfl⟩ := hv; obtain ⟨t', rfl⟩ := hu; exact lt_int k
      · cases h
    · cases h
  | Gt =>
    replace h : cmpGt v u = some b := h
    unfold cmpGt at h
    split at h
    · split at h
      · cases h; obtain ⟨t, rfl⟩ := hv; obtain ⟨t', rfl⟩ := hu; exact gt_int k
      · cases h
    · cases h
  | In => exact (inOf_sound G h S hn hv hu).1 k
  | NotIn =>
    have h : cond (isNone v) none (notO (inOf T σ v u)) = some b := h
    cases q : isNone v with
    | true => rw [q] at h; cases h
    | false =>
      rw [q] at h
      exact (inOf_sound G (notO_some h) S hn hv hu).2 q (by rw [Bool.not_not]; exact k)
theorem addOf_sound {v u z : AV} {vv uv : Value} {n : Nat} (h : addOf v u = some z) (hv : VR n ρ v vv) (hu : VR n ρ u uv) {Q : Value → Shared → Prop} (k : KO prog w sc n ρ s z Q) :
    wpAny (model prog w) A (binaryOp .Add vv uv) Q E s ∧ (isInt v = true → wpAny (model prog w) A (inplaceOp .Add vv uv) Q E s) := by
  unfold addOf at h
  split at h
  · split at h
    · cases h; obtain ⟨t, rfl⟩ := hv; obtain ⟨t', rfl⟩ := hu
      exact ⟨add_int (k _ _ ⟨_, rfl⟩ rfl (sm_toks s _)), fun _ => iadd_int (k _ _ ⟨_, rfl⟩ rfl (sm_toks s _))⟩
    · cases h
  · split at h
    · rename_i x _ y
      obtain ⟨q, h⟩ := cond_some h
      cases h; obtain ⟨t, rfl⟩ := hv; obtain ⟨t', rfl⟩ := hu
      exact ⟨SBL.add (fun _ k' _ => k _ _ ⟨_, rfl⟩ rfl (sm_toks s _)) (by rw [sizeLine_eq]; have := Nat.le_of_ble_eq_true q; omega), fun z => by cases z⟩
    · cases h
  · cases h
theorem subOf_sound {v u z : AV} {vv uv : Value} {n : Nat} (h : subOf v u = some z) (hv : VR n ρ v vv) (hu : VR n ρ u uv) {Q : Value → Shared → Prop} (k : KO prog w sc n ρ s z Q) :
    wpAny (model prog w) A (binaryOp .Sub vv uv) Q E s ∧ (isInt v = true → wpAny (model prog w) A (inplaceOp .Sub vv uv) Q E s) := by
  unfold subOf at h
  split at h
  · split at h
    · cases h; obtain ⟨t, rfl⟩ := hv; obtain ⟨t', rfl⟩ := hu
      exact ⟨sub_int (k _ _ ⟨_, rfl⟩ rfl (sm_toks s _)), fun _ => isub_int (k _ _ ⟨_, rfl⟩ rfl (sm_toks s _))⟩
    · cases h
  · split at h
    · obtain ⟨q, h⟩ := cond_some h
      have q := of_decide_eq_true q
      subst q
      cases h; obtain ⟨⟨t, rfl⟩, hc, _⟩ := hv; obtain ⟨t', rfl⟩ := hu
      exact ⟨sub_int (k _ _ ⟨⟨_, rfl⟩, hc⟩ rfl (sm_toks s _)), fun z => by cases z⟩
    · cases h
  · cases h
theorem bin_sound {op : Operator} {v u z : AV} {vv uv : Value} {Q : Value → Shared → Prop} (h : binOf op v u = some z) (hv : VR σ.n ρ v vv) (hu : VR σ.n ρ u uv) (k : KO prog w sc σ.n ρ s z Q) : wpAny (model prog w) A (binaryOp op vv uv) Q E s := by
  unfold binOf at h
  split at h
  · exact (addOf_sound h hv hu k).1
  · exact (subOf_sound h hv hu k).1
  · cases h
theorem inp_sound {op : Operator} {v u z : AV} {vv uv : Value} {Q : Value → Shared → Prop} (h : binOf op v u = some z) (hi : isInt v = true) (hv : VR σ.n ρ v vv) (hu : VR σ.n ρ u uv) (k : KO prog w sc σ.n ρ s z Q) : wpAny (model prog w) A (inplaceOp op vv uv) Q E s := by
  unfold binOf at h
  split at h
  · exact (addOf_sound h hv hu k).2 hi
  · exact (subOf_sound h hv hu k).2 hi
  · cases h
theorem truth_sound {v : AV} {b : Bool} {vv : Value} {Q : Bool → Shared → Prop} (h : truth σ v = some b) (hv : VR σ.n ρ v vv) (k : Q b s) : wpAny (model prog w) A (truthy vv) Q E s := by
  unfold truth at h
  split at h
  · cases h; rw [show vv = _ from hv]; exact wpAny_truthy_bool k
  · cases h; rw [show vv = _ from hv]; exact truthy_none k
  · rename_i j
    cases h; obtain ⟨t, rfl⟩ := hv
    refine truthy_int ?_
    rw [bne, ibeq]
    simpa using k
  · cases h
theorem own_inst (G : Glb T K p loose mean mg mb h₀) {C : Nat} {a' : Value} {tv : Value} {b : Bool} {x d : Addr} {od : Obj} {Q : Value → Shared → Prop} (ho : ownT T C = some a') (hk : kitOne K a' tv = some b) (X : K.In s.heap)
    (m2 : s.heap.get? x = some (instObj C d)) (n2 : s.heap.get? d = some od) (k : ∀ tk, Q (.bool b) { s with toks := tk }) : wpAny (model prog w) A (call (.builtin "isinstance") [.ref x, tv]) Q E s := by
  unfold ownT at ho
  obtain ⟨q, ho⟩ := cond_some ho
  cases ho
  obtain ⟨o1, o2, o3, o4, o5, o6⟩ := G.own C q
  exact kia_one (kitx_own (x := x) (ox := instObj C d) (od := od) o1 o2 o3 o4 o5 o6) X ⟨m2, rfl, rfl, n2⟩ hk (by intro e; cases e) k
theorem inst_sound (G : Glb T K p loose mean mg mb h₀) {v t : AV} {b : Bool} {vv tv : Value} {Q : Value → Shared → Prop} (h : isInst T σ v t = some b) (S : St prog w sc h₀ fs L m σ ρ news s) (hv : VR σ.n ρ v vv) (ht : VR σ.n ρ t tv)
    (k : ∀ tk, Q (.bool b) { s with toks := tk }) : wpAny (model prog w) A (call (.builtin "isinstance") [vv, tv]) Q E s := by
  have X := G.X.keeps S.fr.keep
  unfold isInst at h
  split at h
  · rename_i a ha
    split at h
    · rename_i b' hb
      have htv : tv = b' := by
        unfold clsOfA at hb
        split at hb
        · cases hb; exact ht
        · cases hb; exact ht
        · cases hb
      subst htv
      have hk := G.isi _ _ _ h
      cases v with
      | id i =>
        obtain ⟨_, rfl⟩ := hv
        have ha : (match σ.get i with | some o => tyO T σ o | .none => .none) = some a := ha
        cases hi : σ.get i with
        | none => rw [hi] at ha; cases ha
        | some ob =>
        rw [hi] at ha
        cases ob with
        | inst C d =>
          have ha : (match dictAt σ d with | some _ => ownT T C | .none => .none) = some a := ha
          cases hd : dictAt σ d with
          | none => rw [hd] at ha; cases ha
          | some F =>
            rw [hd] at ha
            obtain ⟨o, m1, m2, m3, m4⟩ := S.get hi
            subst m4
            obtain ⟨od, n1, n2, _⟩ := S.get (dictAt_get hd)
            exact own_inst G ha hk X m2 n2 k
        | tup xs =>
          cases ha
          obtain ⟨o, m1, m2, its, m3, m4⟩ := S.get hi
          subst m3
          exact kia_one kitx_tuple X ⟨_, m2, rfl⟩ hk (by intro e; cases e) k
        | list xs =>
          cases ha
          obtain ⟨o, m1, m2, its, e, m3, m4⟩ := S.get hi
          subst m3
          exact kia_one kitx_list X ⟨_, m2, rfl⟩ hk (by intro e; cases e) k
        | _ => cases ha
      | int _ => cases ha; obtain ⟨_, rfl⟩ := hv; exact kia_one kitx_int X trivial hk (by intro e; cases e) k
      | num _ _ => cases ha; obtain ⟨⟨_, rfl⟩, _⟩ := hv; exact kia_one kitx_int X trivial hk (by intro e; cases e) k
      | none => cases ha; rw [show vv = _ from hv]; exact kia_one kitx_none X trivial hk (by intro e; cases e) k
      | str _ => cases ha; obtain ⟨_, rfl⟩ := hv; exact kia_one kitx_str X trivial hk (by intro e; cases e) k
      | glob g =>
        rw [show vv = _ from hv]
        have ha : (match T.ki g with | some C => ownT T C | .none => .none) = some a := ha
        cases hi : T.ki g with
        | none => rw [hi] at ha; cases ha
        | some C =>
          rw [hi] at ha
          obtain ⟨d, es, k', e1, e2⟩ := G.ki g C hi
          exact own_inst G ha hk X (X _ _ e1) (X _ _ e2) k
      | _ => cases ha
    · cases h
  · cases h
end
end Mine
end

section
open PySem PySem.W PyProof.Rows PySem.Calls
set_option Elab.async false
set_option maxRecDepth 100000
set_option linter.unusedVariables false
namespace Mine
section
variable {prog : Program} {w : World} {sc : List Int} {h₀ : Heap} {T : ITab} {K : Frag} {p : Program} {loose : List Str} {mean : ExcName → Option Value} {mg mb : Str → Option Value}
variable {A : Around} {cn : Str} {a : Addr} {ccd : Value} {cl : List (Str × Addr)} {outer : List Env} {fs : Fs} {L : Addr} {m : Str → Option Value} {fe : FE} {lc : Lc} {σ : AS} {ρ : Nat → Addr} {news : List (Addr × Obj)} {s : Shared} {E : Value → Shared → Prop}
theorem KO.of {σ : AS} {x : Option AV × AS} {u : AV} {Q : Value → Shared → Prop} (k : Kc prog w sc h₀ fs L m VR σ ρ news s x Q E) (e : x = (some u, σ)) (S : St prog w sc h₀ fs L m σ ρ news s) : KO prog w sc σ.n ρ s u Q := by
  subst e
  intro uv s' hv hh M
  exact k.done (S.of_heap hh) M hv
noncomputable def DR (n : Nat) (ρ : Nat → Addr) : Lc → List (Value × Value) → Prop
  | [], [] => True
  | (x, a) :: fs, (k, v) :: es => (∃ t, k = .str x t) ∧ VR n ρ a v ∧ DR n ρ fs es
  | _, _ => False
theorem DR.kr {n : Nat} : ∀ {fs : Lc} {es : List (Value × Value)}, DR n ρ fs es → KR n ρ fs (strPairs es) ∧ allStrKeys es = true ∧ (strPairs es).map (·.1) = fs.map (·.1)
  | [], [], _ => ⟨trivial, rfl, rfl⟩
  | (x, a) :: fs, (k, v) :: es, h => by
    obtain ⟨⟨t, rfl⟩, h2, h3⟩ := h
    obtain ⟨g1, g2, g3⟩ := h3.kr
    exact ⟨⟨rfl, h2, g1⟩, g2, by show x :: _ = x :: _; rw [g3]⟩
  | [], _ :: _, h => h.elim
  | _ :: _, [], h => h.elim
theorem notInS_iff {x : Str} : ∀ {l : List Str}, notInS x l = true → x ∉ l
  | [], _ => List.not_mem_nil
  | y :: r, h => by
    rw [notInS_2] at h
    cases q : sEq x y with
    | true => rw [q] at h; cases h
    | false =>
      rw [q] at h
      intro hm
      rcases List.mem_cons.mp hm with e | hm
      · exact sEq_ne q e
      · exact notInS_iff h hm
theorem ndS_nodup : ∀ {l : List Str}, ndS l = true → l.Nodup
  | [], _ => List.nodup_nil
  | x :: r, h => by
    rw [ndS_2] at h
    cases q : notInS x r with
    | true => rw [q] at h; exact List.nodup_cons.mpr ⟨notInS_iff q, ndS_nodup h⟩
    | false => rw [q] at h; cases h
theorem keyS_eq {k : Option Expr} {x : Str} (h : keyS k = some x) : ∃ kk pp, k = some (.Constant (.str x) kk pp) := by
  cases k with
  | none => cases h
  | some e => cases e with
    | Constant c a b => cases c with
      | str y => cases h; exact ⟨_, _, rfl⟩
      | _ => cases h
    | _ => cases h
theorem dps_sound {r : Rc} {n : Nat} (H : SEv prog w sc h₀ r n) {pos : Pos} : ∀ {ks : List (Option Expr)} {es : List Expr} {lc : Lc} {σ : AS} {x : Option Lc × AS}, dps r fe ks es lc σ = some x →
    ∀ {ρ : Nat → Addr} {news : List (Addr × Obj)} {s : Shared} {Q : List (Value × Value) → Shared → Prop}, AX A (envX cn fe.sc L a ccd cl) outer L fs n → Cf prog w sc h₀ fs L m fe cl lc σ ρ news s → Kc prog w sc h₀ fs L m DR σ ρ news s x Q E →
    wpAny (model prog w) A (evalPairs (pairTrees ks es (envX cn fe.sc L a ccd cl) pos)) Q E s
  | [], [], lc, σ, x, h, ρ, news, s, Q, ax, C, k => by cases h; exact pairTrees_nil_walk (k.done C.st (Sm.rfl s) trivial)
  | [], _ :: _, lc, σ, x, h, ρ, news, s, Q, ax, C, k => by cases h
  | _ :: _, [], lc, σ, x, h, ρ, news, s, Q, ax, C, k => by cases h
  | kx :: ks, e :: es, lc, σ, x, h, ρ, news, s, Q, ax, C, k => by
    rw [dps_2] at h
    dsimp only at h
    split at h
    · rename_i y hy0
      obtain ⟨kk, pp, rfl⟩ := keyS_eq hy0
      obtain ⟨z, hz, _⟩ := bd_some h
      refine pairTrees_cons_walk (Constant_str ?_)
      have C' : Cf prog w sc h₀ fs L m fe cl lc σ ρ news { s with toks := s.toks + 1 } := ⟨C.st.of_heap rfl, C.lc, C.cl⟩
      refine H fe e lc σ z hz A cn a ccd cl outer fs L m ρ news _ _ _ ax C' (Kc.bind h hz (k.move .refl (sm_toks s _)) fun v hf ρ₁ news₁ s₁ S N M b hb k' => ?_)
      obtain ⟨y', hy, _⟩ := bd_some hf
      refine dps_sound H hy ax (C'.next S N) (Kc.bind hf hy k' fun vs hg ρ₂ news₂ s₂ S' N' M' bs hbs k'' => ?_)
      cases hg
      exact k''.done S' (Sm.rfl _) ⟨⟨_, rfl⟩, N'.vr hb, hbs⟩
    · cases h
theorem lits_some : ∀ {ks : List (Option Expr)}, strLits ks = true → ks.all (·.isSome) = true
  | [], _ => rfl
  | k :: ks, h => by
    cases k with
    | none => cases h
    | some e => cases e with
      | Constant c a b => cases c with
        | str x => rw [List.all_cons, lits_some (ks := ks) h]; rfl
        | _ => cases h
      | _ => cases h
theorem call_args (G : Glb T K p loose mean mg mb h₀) {r : Rc} {n : Nat} (H : Snd prog w sc h₀ r n) {pos : Pos} {es : List Expr} {f : AV} {fv : Value} {x : Option AV × AS} {Q : Value → Shared → Prop} (hf : argOk T f es = true)
    (h : bd (evs r fe es lc σ) (fun vs σ => r.ca f vs σ) = some x) (ax : AX A (envX cn fe.sc L a ccd cl) outer L fs n) (C : Cf prog w sc h₀ fs L m fe cl lc σ ρ news s) (hv : VR σ.n ρ f fv) 
    (k : Kc prog w sc h₀ fs L m VR σ ρ news s x Q E) : wpAny (model prog w) A (callWith pos fv [] (backTo pos (starEach es (envX cn fe.sc L a ccd cl))) []) Q E s := by
  unfold argOk at hf
  rw [Bool.and_eq_true, Bool.and_eq_true] at hf
  obtain ⟨⟨hf, hst⟩, hne⟩ := hf
  obtain ⟨z, hz, _⟩ := bd_some h
  have main : wpAny (model prog w) A (spliced (backTo pos (starEach es (envX cn fe.sc L a ccd cl)))) (fun vs s₁ => K.In s₁.heap ∧ wpAny (model prog w) A (PySem.call fv vs) Q E s₁) E s := by
    refine evs_sound H.ev hz ax C (Kc.bind h hz k fun vs hg ρ₁ news₁ s₁ S N M bs hbs k' => ⟨G.X.keeps S.fr.keep, ?_⟩)
    exact H.ca f vs z.2 x hg A _ outer fs L m ρ₁ news₁ s₁ fv bs Q E ax S (N.vr hv) hbs k'
  cases es with
  | nil =>
    cases f with
    | glob b =>
      rw [show fv = _ from hv] at main ⊢
      refine callWith_K0 (G.X.keeps C.st.fr.keep) (G.kp b hf) ?_
      exact H.ca (.glob b) [] σ x h A _ outer fs L m ρ news s (.ref b) [] Q E ax C.st rfl trivial k
    | bi b => cases hne
    | ty b => cases hne
    | _ => cases hf
  | cons e es =>
    rw [List.all_cons, Bool.and_eq_true] at hst
    have h1 : isStar e = false := by simpa using hst.1
    have h2 := stars_plain (env := envX cn fe.sc L a ccd cl) (pos := pos) hst.2
    cases f with
    | glob b =>
      rw [show fv = _ from hv] at main ⊢
      exact callWith_K G.X (G.kp b hf) main (star_eq h1) h2
    | bi b =>
      rw [show fv = _ from hv] at main ⊢
      exact PyProof.Rows.callWith_builtin1 (wpAny_mono main (fun _ _ x => x.2) fun _ _ x => x) (star_eq h1) h2
    | ty b =>
      rw [show fv = _ from hv] at main ⊢
      exact PyProof.Rows.callWith_type1 (wpAny_mono main (fun _ _ x => x.2) fun _ _ x => x) (star_eq h1) h2
    | _ => cases hf
end
end Mine
end

section
open PySem PySem.W PyProof.Rows PySem.Calls
set_option Elab.async false
set_option maxRecDepth 100000
set_option linter.unusedVariables false
namespace Mine
section
variable {prog : Program} {w : World} {sc : List Int} {h₀ : Heap} {fs : Fs} {L L' : Addr} {m m' m'' : Str → Option Value} {σ σ' : AS} {ρ ρ' : Nat → Addr} {news news' : List (Addr × Obj)} {s s' : Shared}
noncomputable def cut (L : Addr) (news : List (Addr × Obj)) : List (Addr × Obj) := news.filter fun p => !(Nat.beq p.1 L)
theorem mem_cut {p : Addr × Obj} : p ∈ cut L news ↔ p ∈ news ∧ p.1 ≠ L := by
  unfold cut
  rw [List.mem_filter]
  constructor
  · rintro ⟨h1, h2⟩
    refine ⟨h1, fun e => ?_⟩
    rw [e, Nat.beq_refl] at h2
    cases h2
  · rintro ⟨h1, h2⟩
    refine ⟨h1, ?_⟩
    cases q : Nat.beq p.1 L with
    | false => rfl
    | true => exact absurd (Nat.eq_of_beq_eq_true q) h2
theorem cut_nd (h : (news.map (·.1)).Nodup) : ((cut L news).map (·.1)).Nodup := h.sublist ((List.filter_sublist).map _)
/-- into a frame: the caller's frame goes among the written objects -/
theorem St.enter {h₁ : Heap} (S : St prog w sc h₀ fs L m σ ρ news s) (hL : s.heap.objs.size ≤ L') (ns : h₁.Ns L' m') (keep : ∀ b o, s.heap.get? b = some o → h₁.get? b = some o) (e : s'.heap = h₁) :
    ∃ oL, s.heap.get? L = some oL ∧ St prog w sc h₀ ((L, m) :: fs) L' m' σ ρ ((L, oL) :: news) s' := by
  obtain ⟨oL, es, ep, gL, dL, kL, fL⟩ := S.fr.ns
  have ltL : L < L' := Nat.lt_of_lt_of_le (Heap.lt_size gL) hL
  refine ⟨oL, gL, ⟨⟨by rw [e]; exact ns, fun b o hb => by rw [e]; exact keep b o (S.fr.keep b o hb), Nat.le_trans S.fr.above (Nat.le_of_lt ltL)⟩, fun p hp => ?_, ?_⟩⟩
  · rw [e]
    rcases List.mem_cons.mp hp with rfl | hp
    · exact ⟨keep _ _ gL, Nat.ne_of_lt ltL, none_above S.fr.above⟩
    · exact ⟨keep _ _ (S.nw p hp).1, Nat.ne_of_lt (Nat.lt_of_lt_of_le (Heap.lt_size (S.nw p hp).1) hL), (S.nw p hp).2.2⟩
  · refine ⟨fun i ao h => ?_, S.sy.inj, ?_, fun q hq => ?_, fun q hq i hi => ?_⟩
    · obtain ⟨o, h1, h2⟩ := S.sy.own i ao h; exact ⟨o, .tail _ h1, h2⟩
    · rw [List.map_cons]
      refine List.nodup_cons.mpr ⟨fun hm => ?_, S.sy.nd⟩
      obtain ⟨p, hp, q⟩ := List.mem_map.mp hm
      exact (S.nw p hp).2.1 q
    · rcases List.mem_cons.mp hq with rfl | hq
      · exact ⟨oL, .head _, es, ep, dL, kL, fL⟩
      · obtain ⟨o, h1, h2⟩ := S.sy.frs q hq; exact ⟨o, .tail _ h1, h2⟩
    · rcases List.mem_cons.mp hq with rfl | hq
      · obtain ⟨ao, h⟩ := hi
        obtain ⟨o, h1, _⟩ := S.sy.own i ao h
        exact (S.nw _ h1).2.1
      · exact S.sy.sep q hq i hi
/-- out of a frame -/
theorem St.leave {oL : Obj} (S : St prog w sc h₀ fs L m σ ρ news s) (S' : St prog w sc h₀ ((L, m) :: fs) L' m'' σ' ρ' news' s') (N : Nx ((L, m) :: fs) σ ρ ((L, oL) :: news) σ' ρ' news') :
    St prog w sc h₀ fs L m σ' ρ' (cut L news') s' ∧ Nx fs σ ρ news σ' ρ' (cut L news') := by
  obtain ⟨o, h1, es, ep, h2, h3, h4⟩ := S'.sy.frs (L, m) (.head _)
  have fsL : ∀ q ∈ fs, q.1 ≠ L := fun q hq e => by
    obtain ⟨o, h1, _⟩ := S.sy.frs q hq
    exact (S.nw _ h1).2.1 e
  refine ⟨⟨⟨⟨o, es, ep, (S'.nw _ h1).1, h2, h3, h4⟩, S'.fr.keep, S.fr.above⟩, fun p hp => ?_, ⟨fun i ao h => ?_, S'.sy.inj, cut_nd S'.sy.nd, fun q hq => ?_, fun q hq => S'.sy.sep q (.tail _ hq)⟩⟩,
    N.le, N.ext, N.lv, fun i h1 h2 p hp => N.fresh i h1 h2 p (.tail _ hp), fun p hp h1 h2 => ?_, fun p hp => ?_⟩
  · obtain ⟨hp, hne⟩ := mem_cut.mp hp
    exact ⟨(S'.nw p hp).1, hne, (S'.nw p hp).2.2⟩
  · obtain ⟨o, g1, g2⟩ := S'.sy.own i ao h
    exact ⟨o, mem_cut.mpr ⟨g1, S'.sy.sep (L, m) (.head _) i ⟨_, h⟩⟩, g2⟩
  · obtain ⟨o, g1, g2⟩ := S'.sy.frs q (.tail _ hq)
    exact ⟨o, mem_cut.mpr ⟨g1, fsL q hq⟩, g2⟩
  · have hne := (S.nw p hp).2.1
    refine mem_cut.mpr ⟨N.keep p (.tail _ hp) h1 fun q hq => ?_, hne⟩
    rcases List.mem_cons.mp hq with rfl | hq
    · exact fun e => hne e.symm
    · exact h2 q hq
  · obtain ⟨o, g⟩ := N.addr p (.tail _ hp)
    exact ⟨o, mem_cut.mpr ⟨g, (S.nw p hp).2.1⟩⟩
theorem fun_frames {base : Heap} {h : Heap} : ∀ {outer : List Env} {fs : Fs}, OutOk outer fs → (∀ q ∈ fs, ∃ o, h.get? q.1 = some o ∧ NsObj o q.2) → (∀ q ∈ fs, base.get? q.1 = none) → h.FunFrames base outer
  | [], _, _, _, _ => trivial
  | e :: outer, [], h, _, _ => by have := h.1; cases this
  | e :: outer, q :: fs, h, h1, h2 => by
    obtain ⟨e1, e2⟩ := h
    rw [List.map_cons, List.map_cons, List.cons.injEq] at e1
    obtain ⟨o, g1, es, ep, g2, _⟩ := h1 q (.head _)
    refine ⟨by rw [e2 e (.head _)]; decide, ⟨q.1, o, e1.1, h2 q (.head _), g1, fun vs hq => by rw [g2] at hq; cases hq⟩, fun_frames ⟨e1.2, fun e he => e2 e (.tail _ he)⟩ (fun q hq => h1 q (.tail _ hq)) fun q hq => h2 q (.tail _ hq)⟩
end
end Mine
end

section
open PySem PySem.W PyProof.Rows PySem.Calls
set_option Elab.async false
set_option maxRecDepth 100000
set_option linter.unusedVariables false
namespace Mine
/-- the heap once an exception has left a frame: what stands, what gets slots, what the exception and its entry are -/
structure Gone (h h' : Heap) (fa : List Addr) (e L : Addr) (oe : Obj) : Prop where
  keep : ∀ b o, h.get? b = some o → b ≠ e → b ∉ fa → h'.get? b = some o
  slots : ∀ b o, h.get? b = some o → b ≠ e → ∃ sl, h'.get? b = some { o with slots := sl }
  exc : ∃ T oT ts, h'.get? e = some (oe.mapFields (·.setIfInBounds 1 (.ref T))) ∧ h.objs.size ≤ T ∧ h'.get? T = some oT ∧ oT.data = .fields ts ∧ ts[3]? = some (rawInt L)
section
variable {M : Model} {A : Around} {E : Value → Shared → Prop} {s : Shared}
theorem entry_sound {env : Env} {outer : List Env} {L e : Addr} {oe : Obj} {vs : Array Value} {head : Value} {hadNext : Bool} {base : Heap} {Q : Unit → Shared → Prop}
    (hfr : A.frames = some (env :: outer)) (hl : s.heap.FunFrames base (env :: outer)) (hf : env.frame = some L) (he : s.heap.get? e = some oe) (hd : oe.data = .fields vs) (hsz : 1 < vs.size)
    (h : ∀ h', Gone s.heap h' ((env :: outer).filterMap (·.frame)) e L oe → Q () { s with heap := h' }) :
    wpAny M A (do let a ← frameOf env; let pl ← entryPlaceOf L hadNext; let b ← EntryCells.newEntry head a .none (rawInt L) .none pl; setField (.ref e) 1 b) Q E s := by
  have en : e ∉ (env :: outer).filterMap (·.frame) := fun hm => by
    obtain ⟨_, o, ho, nf⟩ := hl.mem hm
    have : o = oe := Option.some.inj (ho.symm.trans he)
    exact nf vs (this ▸ hd)
  refine wpAny_bind (wpAny_frameOf_fun hfr hl hf fun h₁ hs => ?_)
  refine wpAny_bind (wpAny_entryPlaceOf fun pl hpl => ?_)
  unfold EntryCells.newEntry newFields
  refine wpAny_bind (wpAny_newObj_type ?_ (hpl.sizeOk5 _ _ _ _ _))
  have he₁ : h₁.get? e = some oe := (hs.2.1 e en).trans he
  have he₂ := Heap.get?_push_of_some (h := h₁) { cls := .type "traceback", dict := none, data := .fields ([head, .ref L, .none, rawInt L, .none] ++ (if pl.isEmpty then List.replicate 6 Value.none else pl)).toArray } he₁
  refine wpAny_setField he₂ hd hsz ?_
  have hT : h₁.objs.size ≠ e := Nat.ne_of_gt (Heap.lt_size he₁)
  have d₃ := Obj.data_mapFields hd (·.setIfInBounds 1 (Value.ref h₁.objs.size))
  have he₃ := Heap.get?_update_self (Obj.mapFields (·.setIfInBounds 1 (Value.ref h₁.objs.size))) he₂ (Obj.isFreed_of_fields d₃)
  have hT₃ := (Heap.get?_update_other (h₁.push { cls := .type "traceback", dict := none, data := .fields ([head, .ref L, .none, rawInt L, .none] ++ (if pl.isEmpty then List.replicate 6 Value.none else pl)).toArray })
    (Obj.mapFields (·.setIfInBounds 1 (Value.ref h₁.objs.size))) (Ne.symm hT)).trans (Heap.get?_push_size h₁ rfl)
  refine h _ ?_
  have tr : ∀ b o, b ≠ e → h₁.get? b = some o →
      ((h₁.push { cls := .type "traceback", dict := none, data := .fields ([head, .ref L, .none, rawInt L, .none] ++ (if pl.isEmpty then List.replicate 6 Value.none else pl)).toArray }).update e (Obj.mapFields (·.setIfInBounds 1 (Value.ref h₁.objs.size)))).get? b = some o := fun b o hb ho => by
    rw [Heap.get?_update_other _ _ (Ne.symm hb)]
    exact Heap.get?_push_of_some _ ho
  refine ⟨fun b o ho hb hn => tr b o hb ((hs.2.1 b hn).trans ho), fun b o ho hb => ?_, h₁.objs.size, _, _, he₃, by rw [hs.1]; exact Nat.le_refl _, hT₃, rfl, by simp⟩
  obtain ⟨sl, z⟩ := hs.2.2 b o ho
  exact ⟨sl, tr b _ hb z⟩
theorem Gone.trans_upd {h h' : Heap} {fa : List Addr} {e L T : Addr} {oe oT : Obj} {f : Obj → Obj} (x : Gone (h.update T f) h' fa e L oe) (hT : h.get? T = some oT) (hTe : T ≠ e) :
    (∀ b o, h.get? b = some o → b ≠ e → b ∉ fa → b ≠ T → h'.get? b = some o) ∧ (∀ b o, h.get? b = some o → b ≠ e → b ≠ T → ∃ sl, h'.get? b = some { o with slots := sl }) ∧
      ∃ T oT ts, h'.get? e = some (oe.mapFields (·.setIfInBounds 1 (.ref T))) ∧ h.objs.size ≤ T ∧ h'.get? T = some oT ∧ oT.data = .fields ts ∧ ts[3]? = some (rawInt L) := by
  have o : ∀ b, b ≠ T → (h.update T f).get? b = h.get? b := fun b hb => Heap.get?_update_other _ _ (Ne.symm hb)
  refine ⟨fun b ob e1 e2 e3 e4 => x.keep b ob ((o b e4).trans e1) e2 e3, fun b ob e1 e2 e4 => x.slots b ob ((o b e4).trans e1) e2, ?_⟩
  obtain ⟨T', oT', ts', y1, y2, y3⟩ := x.exc
  exact ⟨T', oT', ts', y1, by rw [Heap.size_after_update] at y2; exact y2, y3⟩
end
end Mine
end

section
open PySem PySem.W PyProof.Rows PySem.Calls
set_option Elab.async false
set_option maxRecDepth 100000
set_option linter.unusedVariables false
namespace Mine
section
variable {prog : Program} {w : World} {sc : List Int} {h₀ : Heap} {fs : Fs} {L L' : Addr} {m m' : Str → Option Value} {σ σ' : AS} {ρ ρ' : Nat → Addr} {news news' : List (Addr × Obj)} {s s' : Shared} {A : Around} {E : Value → Shared → Prop}
  {ev : Value} {e d : Addr} {oe : Obj} {vs : Array Value} {es : List DictEntry} {k : Nat} {t : Tok}
theorem fa_eq {env : Env} {outer : List Env} (out : OutOk outer fs) (hf : env.frame = some L) : (env :: outer).filterMap (·.frame) = L :: fs.map (·.1) := by
  have : ∀ {outer : List Env} {fs : Fs}, outer.map (·.frame) = fs.map (fun q => some q.1) → outer.filterMap (·.frame) = fs.map (·.1) := by
    intro outer
    induction outer with
    | nil => intro fs h; cases fs with
      | nil => rfl
      | cons _ _ => cases h
    | cons e outer ih => intro fs h; cases fs with
      | nil => cases h
      | cons q fs =>
        rw [List.map_cons, List.map_cons, List.cons.injEq] at h
        rw [List.filterMap_cons, h.1, ih h.2]
        rfl
  rw [List.filterMap_cons, hf, this out.1]
noncomputable def refresh (h' : Heap) (news : List (Addr × Obj)) : List (Addr × Obj) := news.map fun p => (p.1, (h'.get? p.1).getD p.2)
theorem refresh_keys (h' : Heap) (news : List (Addr × Obj)) : (refresh h' news).map (·.1) = news.map (·.1) := by
  unfold refresh; rw [List.map_map]; rfl
theorem after_leaving {h' : Heap} (S : St prog w sc h₀ fs L m σ ρ news s) (X : Ex h₀ fs L (some L) σ ρ news s.heap ev e d oe vs es k t) (hz : 1 < vs.size) (bad : Addr → Prop) (hb1 : ∀ p ∈ news, ¬ bad p.1) (hb2 : ∀ b o, h₀.get? b = some o → ¬ bad b) (hbL : ¬ bad L)
    (A1 : ∀ b o, s.heap.get? b = some o → b ≠ e → b ∉ L :: fs.map (·.1) → ¬ bad b → h'.get? b = some o)
    (A2 : ∀ b o, s.heap.get? b = some o → b ≠ e → ¬ bad b → ∃ sl, h'.get? b = some { o with slots := sl })
    (A3 : ∃ T oT ts, h'.get? e = some (oe.mapFields (·.setIfInBounds 1 (.ref T))) ∧ s.heap.objs.size ≤ T ∧ h'.get? T = some oT ∧ oT.data = .fields ts ∧ ts[3]? = some (rawInt L)) :
    ∃ news' oe' vs', St prog w sc h₀ fs L m σ ρ news' { s with heap := h' } ∧ Nx fs σ ρ news σ ρ news' ∧ Ex h₀ fs L (some L) σ ρ news' h' ev e d oe' vs' es k t ∧ ∃ T, vs'[1]? = some (.ref T) := by
  obtain ⟨T, oT, ts, t1, t2, t3, t4, t5⟩ := A3
  obtain ⟨oL, el, ep, gL, dL, kL, fL⟩ := S.fr.ns
  have ns : ∀ {o : Obj} {m : Str → Option Value} (sl : Array (Option Value)), NsObj o m → NsObj { o with slots := sl } m := fun sl ⟨es, ep, a, b, c⟩ => ⟨es, ep, a, b, c⟩
  have there : ∀ p ∈ news, ∃ sl, h'.get? p.1 = some { p.2 with slots := sl } := fun p hp => A2 p.1 p.2 (S.nw p hp).1 (X.out p hp) (hb1 p hp)
  have same : ∀ p ∈ news, p.1 ∉ fs.map (·.1) → h'.get? p.1 = some p.2 := fun p hp hn => A1 p.1 p.2 (S.nw p hp).1 (X.out p hp) (fun hm => by
    rcases List.mem_cons.mp hm with q | q
    · exact (S.nw p hp).2.1 q
    · exact hn q) (hb1 p hp)
  have mem : ∀ p ∈ news, ∃ sl, (p.1, { p.2 with slots := sl }) ∈ refresh h' news := fun p hp => by
    obtain ⟨sl, z⟩ := there p hp
    exact ⟨sl, List.mem_map.mpr ⟨p, hp, by rw [z]; rfl⟩⟩
  have memS : ∀ p ∈ news, p.1 ∉ fs.map (·.1) → p ∈ refresh h' news := fun p hp hn => List.mem_map.mpr ⟨p, hp, by rw [same p hp hn]; rfl⟩
  have back : ∀ p ∈ refresh h' news, ∃ q ∈ news, p.1 = q.1 ∧ h'.get? p.1 = some p.2 := fun p hp => by
    obtain ⟨q, hq, rfl⟩ := List.mem_map.mp hp
    obtain ⟨sl, z⟩ := there q hq
    exact ⟨q, hq, rfl, by show h'.get? q.1 = some _; rw [z]; rfl⟩
  have fsn : ∀ i, Lv σ i → ρ i ∉ fs.map (·.1) := fun i hi hm => by
    obtain ⟨q, hq, z⟩ := List.mem_map.mp hm
    exact S.sy.sep q hq i hi z.symm
  have old : ∀ b o, h₀.get? b = some o → h'.get? b = some o := fun b o hb => A1 b o (S.fr.keep b o hb) (fun z => by rw [z, X.old] at hb; cases hb) (fun hm => by
    rcases List.mem_cons.mp hm with q | q
    · rw [q, none_above S.fr.above] at hb; cases hb
    · obtain ⟨q', hq, z⟩ := List.mem_map.mp q
      obtain ⟨o', g, _⟩ := S.sy.frs q' hq
      have := (S.nw _ g).2.2
      rw [z] at this
      rw [this] at hb; cases hb) (hb2 b o hb)
  have d1 : d ∉ fs.map (·.1) := fun hm => by
    obtain ⟨q, hq, z⟩ := List.mem_map.mp hm
    exact X.fr q hq z
  have hd := Obj.data_mapFields X.data (·.setIfInBounds 1 (Value.ref T))
  refine ⟨refresh h' news, _, _, ⟨⟨?_, old, S.fr.above⟩, fun p hp => ?_, ⟨fun i ao h => ?_, S.sy.inj, by rw [refresh_keys]; exact S.sy.nd, fun q hq => ?_, S.sy.sep⟩⟩,
    ⟨Nat.le_refl _, fun _ _ => rfl, fun _ _ h => h, fun i h1 h2 => absurd h2.lt (Nat.not_lt.mpr h1), fun p hp _ h2 => memS p hp fun hm => ?_, fun p hp => ?_⟩,
    { v := X.v, at_ := t1, cls := (Obj.cls_mapFields _ _).trans X.cls, dict := ?_, data := hd, old := X.old, out := fun p hp => ?_, notL := X.notL, tr := .inr ⟨T, oT, ts, rawInt L, by simp [hz], t3, t4, t5, .inr ⟨L, rfl, rfl⟩, ?_, ?_, fun p hp => ?_, ?_⟩, mem := memS _ X.mem d1, own := X.own, fr := X.fr, word := X.word }, T, by simp [hz]⟩
  · obtain ⟨sl, z⟩ := A2 L oL gL (fun q => X.notL q.symm) hbL
    exact ⟨_, el, ep, z, dL, kL, fL⟩
  · obtain ⟨q, hq, z, g⟩ := back p hp
    exact ⟨g, by rw [z]; exact (S.nw q hq).2.1, by rw [z]; exact (S.nw q hq).2.2⟩
  · obtain ⟨o, g1, g2⟩ := S.sy.own i ao h
    exact ⟨o, memS _ g1 (fsn i ⟨_, h⟩), g2⟩
  · obtain ⟨o, g1, g2⟩ := S.sy.frs q hq
    obtain ⟨sl, z⟩ := mem _ g1
    exact ⟨_, z, ns sl g2⟩
  · obtain ⟨q, hq, z⟩ := List.mem_map.mp hm
    exact h2 q hq z
  · obtain ⟨sl, z⟩ := mem p hp
    exact ⟨_, z⟩
  · have hz : (oe.mapFields (·.setIfInBounds 1 (Value.ref T))).dict = oe.dict := by
      obtain ⟨c, dd, da, sl⟩ := oe
      have hd := X.data
      dsimp only at hd
      subst hd
      rfl
    rw [hz]; exact X.dict
  · obtain ⟨q, hq, z, g⟩ := back p hp
    rw [z]; exact X.out q hq
  · exact Nat.ne_of_gt (Nat.lt_of_lt_of_le (Heap.lt_size X.at_) t2)
  · exact Nat.ne_of_gt (Nat.lt_of_lt_of_le (Heap.lt_size gL) t2)
  · obtain ⟨q, hq, z, g⟩ := back p hp
    rw [z]; exact Nat.ne_of_lt (Nat.lt_of_lt_of_le (Heap.lt_size (S.nw q hq).1) t2)
  · exact none_above (Nat.le_trans S.fr.above (Nat.le_trans (Nat.le_of_lt (Heap.lt_size gL)) t2))
theorem note_sound {env : Env} {outer : List Env} {M : Model} {Q : Unit → Shared → Prop} (hfr : A.frames = some (env :: outer)) (out : OutOk outer fs) (hf : env.frame = some L) (hk : env.scope.kind = .function)
    (S : St prog w sc h₀ fs L m σ ρ news s) (X : Ex h₀ fs L (some L) σ ρ news s.heap ev e d oe vs es k t)
    (K : ∀ h' news' oe' vs', St prog w sc h₀ fs L m σ ρ news' { s with heap := h' } → Nx fs σ ρ news σ ρ news' → Ex h₀ fs L (some L) σ ρ news' h' ev e d oe' vs' es k t → (∃ T, vs'[1]? = some (.ref T)) → Q () { s with heap := h' }) : wpAny M A (noteFrame ev env) Q E s := by
  obtain ⟨oL, el, ep, gL, dL, kL, fL⟩ := S.fr.ns
  have frames : ∀ h : Heap, (∀ q ∈ (L, m) :: fs, ∃ o, h.get? q.1 = some o ∧ NsObj o q.2) → h.FunFrames ⟨#[], {}⟩ (env :: outer) := fun h hh =>
    fun_frames (fs := (L, m) :: fs) ⟨by rw [List.map_cons, List.map_cons, hf, out.1], fun e' he => by
      rcases List.mem_cons.mp he with rfl | he
      · exact hk
      · exact out.2 e' he⟩ hh fun _ _ => rfl
  have fr0 : ∀ q ∈ (L, m) :: fs, ∃ o, s.heap.get? q.1 = some o ∧ NsObj o q.2 := fun q hq => by
    rcases List.mem_cons.mp hq with rfl | hq
    · exact ⟨oL, gL, el, ep, dL, kL, fL⟩
    · obtain ⟨o, g1, g2⟩ := S.sy.frs q hq; exact ⟨o, (S.nw _ g1).1, g2⟩
  have fa := fa_eq (env := env) out hf
  have hev := X.v
  subst hev
  rcases X.tr with h1 | ⟨T, oT, ts, z, h1, hT, hdT, h3, hzz, hTe, hTL, hTn, hT0⟩
  · have hz := (Array.getElem?_eq_some_iff.mp h1).1
    unfold noteFrame
    simp only [hf]
    refine wpAny_bind (wpAny_field X.at_ X.data h1 ?_)
    rw [if_neg (by decide)]
    refine entry_sound hfr (frames s.heap fr0) hf X.at_ X.data hz fun h' g => ?_
    rw [fa] at g
    obtain ⟨news', oe', vs', S', N', X', T'⟩ := after_leaving S X hz (fun _ => False) (fun _ _ z => z) (fun _ _ _ z => z) (fun z => z) (fun b o a b' c _ => g.keep b o a b' c) (fun b o a b' _ => g.slots b o a b') g.exc
    exact K h' news' oe' vs' S' N' X' T'
  · have hz := (Array.getElem?_eq_some_iff.mp h1).1
    have hzz : z = .none ∨ z = rawInt L := hzz.imp id fun ⟨l, e1, e2⟩ => by cases e1; exact e2
    rcases hzz with rfl | rfl
    · unfold noteFrame
      simp only [hf]
      refine wpAny_bind (wpAny_field X.at_ X.data h1 ?_)
      rw [if_pos (show (Value.ref T != Value.none) = true from by simp)]
      refine wpAny_bind (wpAny_field hT hdT h3 ?_)
      rw [if_neg (show ¬ ((Value.none == rawInt L) = true) from by simp [rawInt])]
      refine wpAny_bind (wpAny_setField hT hdT (Array.getElem?_eq_some_iff.mp h3).1 ?_)
      have oth : ∀ b, b ≠ T → (s.heap.update T (Obj.mapFields (·.setIfInBounds 3 Value.none))).get? b = s.heap.get? b := fun b hb => Heap.get?_update_other _ _ (Ne.symm hb)
      have fr1 : ∀ q ∈ (L, m) :: fs, q.1 ≠ T := fun q hq => by
        rcases List.mem_cons.mp hq with rfl | hq
        · exact fun z => hTL z.symm
        · obtain ⟨o, g1, g2⟩ := S.sy.frs q hq
          exact hTn _ g1
      refine entry_sound (s := { s with heap := s.heap.update T (Obj.mapFields (·.setIfInBounds 3 Value.none)) }) hfr (frames _ fun q hq => by
        obtain ⟨o, g1, g2⟩ := fr0 q hq
        exact ⟨o, (oth _ (fr1 q hq)).trans g1, g2⟩) hf ((oth e (Ne.symm hTe)).trans X.at_) X.data hz fun h' g => ?_
      rw [fa] at g
      obtain ⟨a1, a2, a3⟩ := Gone.trans_upd g hT hTe
      obtain ⟨news', oe', vs', S', N', X', T'⟩ := after_leaving S X hz (fun b => b = T) hTn (fun b o hb z => by rw [z, hT0] at hb; cases hb) (fun z => hTL z.symm) (fun b o q1 q2 q3 q4 => a1 b o q1 q2 q3 q4) (fun b o q1 q2 q3 => a2 b o q1 q2 q3) a3
      exact K h' news' oe' vs' S' N' X' T'
    · exact wpAny_noteFrame_inFlight hf X.at_ X.data h1 hT hdT h3 (K s.heap news oe vs S .refl X ⟨T, h1⟩)
/-- an object aside of the ledger changes -/
theorem St.aside {h' : Heap} {T : Addr} (S : St prog w sc h₀ fs L m σ ρ news s) (hk : ∀ b, b ≠ T → h'.get? b = s.heap.get? b) (hTL : T ≠ L) (hTn : ∀ p ∈ news, p.1 ≠ T) (hT0 : h₀.get? T = none) : St prog w sc h₀ fs L m σ ρ news { s with heap := h' } := by
  obtain ⟨oL, el, ep, gL, dL, kL, fL⟩ := S.fr.ns
  exact ⟨⟨⟨oL, el, ep, (hk L (Ne.symm hTL)).trans gL, dL, kL, fL⟩, fun b o hb => (hk b fun z => by rw [z, hT0] at hb; cases hb).trans (S.fr.keep b o hb), S.fr.above⟩, fun p hp => ⟨(hk p.1 (hTn p hp)).trans (S.nw p hp).1, (S.nw p hp).2⟩, S.sy⟩
theorem flight_sound {M : Model} {Q : Unit → Shared → Prop} (S : St prog w sc h₀ fs L m σ ρ news s) (X : Ex h₀ fs L (some L) σ ρ news s.heap ev e d oe vs es k t) (hT : ∃ T, vs[1]? = some (.ref T))
    (K : ∀ h', St prog w sc h₀ fs L m σ ρ news { s with heap := h' } → Ex h₀ fs L none σ ρ news h' ev e d oe vs es k t → Q () { s with heap := h' }) : wpAny M A (setFlight ev none) Q E s := by
  obtain ⟨T0, hT0⟩ := hT
  have hev := X.v
  subst hev
  rcases X.tr with h1 | ⟨T, oT, ts, z, h1, hT, hdT, h3, hzz, hTe, hTL, hTn, hT0'⟩
  · rw [hT0] at h1; cases h1
  · have hsz := (Array.getElem?_eq_some_iff.mp h3).1
    refine wpAny_setFlight_none X.at_ X.data h1 hT hdT hsz ?_
    have oth : ∀ b, b ≠ T → (s.heap.update T (Obj.mapFields (·.setIfInBounds 3 Value.none))).get? b = s.heap.get? b := fun b hb => Heap.get?_update_other _ _ (Ne.symm hb)
    have d3 := Obj.data_mapFields hdT (·.setIfInBounds 3 Value.none)
    exact K _ (S.aside oth hTL hTn hT0') { X with at_ := (oth e (Ne.symm hTe)).trans X.at_, tr := .inr ⟨T, _, _, .none, h1, Heap.get?_update_self _ hT (Obj.isFreed_of_fields d3), d3, by simp [hsz], .inl rfl, hTe, hTL, hTn, hT0'⟩ }
theorem leave_sound {env : Env} {outer : List Env} {M : Model} {Q : Unit → Shared → Prop} (hfr : A.frames = some (env :: outer)) (out : OutOk outer fs) (hf : env.frame = some L) (hk : env.scope.kind = .function)
    (S : St prog w sc h₀ fs L m σ ρ news s) (X : Ex h₀ fs L (some L) σ ρ news s.heap ev e d oe vs es k t)
    (K : ∀ h' news' oe' vs', St prog w sc h₀ fs L m σ ρ news' { s with heap := h' } → Nx fs σ ρ news σ ρ news' → Ex h₀ fs L none σ ρ news' h' ev e d oe' vs' es k t → Q () { s with heap := h' }) : wpAny M A (leaving env ev) Q E s := by
  unfold leaving
  refine wpAny_bind (note_sound hfr out hf hk S X fun h' news' oe' vs' S' N' X' T' => ?_)
  exact flight_sound S' X' T' fun h2 S2 X2 => K h2 news' oe' vs' S2 N' X2
theorem Ex.leave (X : Ex h₀ ((L, m) :: fs) L' none σ ρ news s.heap ev e d oe vs es k t) (S : St prog w sc h₀ ((L, m) :: fs) L' m' σ ρ news s) : Ex h₀ fs L (some L) σ ρ (cut L news) s.heap ev e d oe vs es k t := by
  obtain ⟨o, h1, _⟩ := S.sy.frs (L, m) (.head _)
  refine { X with out := fun p hp => X.out p (mem_cut.mp hp).1, notL := fun z => X.out _ h1 z.symm, tr := ?_, mem := mem_cut.mpr ⟨X.mem, fun z => X.fr (L, m) (.head _) z.symm⟩, fr := fun q hq => X.fr q (.tail _ hq) }
  rcases X.tr with h | ⟨T, oT, ts, z, a1, a2, a3, a4, az, a5, a6, a7, a8⟩
  · exact .inl h
  · exact .inr ⟨T, oT, ts, z, a1, a2, a3, a4, az.imp id (fun ⟨l, e, _⟩ => by cases e), a5, fun z => a7 _ h1 z.symm, fun p hp => a7 p (mem_cut.mp hp).1, a8⟩
end
end Mine
end

section
open PySem PySem.W PyProof.Rows PySem.Calls
set_option Elab.async false
set_option maxRecDepth 100000
set_option linter.unusedVariables false
namespace Mine
section
variable {prog : Program} {w : World} {sc : List Int} {h₀ : Heap} {T : ITab} {K : Frag} {p : Program} {loose : List Str} {mean : ExcName → Option Value} {mg mb : Str → Option Value}
variable {A : Around} {cn : Str} {a : Addr} {ccd : Value} {cl : List (Str × Addr)} {outer : List Env} {fs : Fs} {L : Addr} {m : Str → Option Value} {fe : FE} {lc : Lc} {σ : AS} {ρ : Nat → Addr} {news : List (Addr × Obj)} {s : Shared} {E : Value → Shared → Prop}
  {ev : Value} {e d : Addr} {oe : Obj} {vs : Array Value} {es : List DictEntry} {k : Nat} {t : Tok}
theorem fnd_filter {f : Nat → Bool} : ∀ {l : List (Nat × AO)} {j : Nat}, fnd (l.filter fun p => f p.1) j = if f j = true then fnd l j else none
  | [], j => by simp [fnd_nil]
  | (i, a) :: r, j => by
    rw [List.filter_cons]
    by_cases h : f i = true
    · rw [if_pos h]
      simp only [fnd_cons, fnd_nil]
      rw [fnd_filter]
      cases e : Nat.beq i j with
      | true => have := Nat.eq_of_beq_eq_true e; subst this; exact (if_pos h).symm
      | false => rfl
    · rw [if_neg h, fnd_filter]
      simp only [fnd_cons, fnd_nil]
      cases e : Nat.beq i j with
      | true => rw [← Nat.eq_of_beq_eq_true e, if_neg h, if_neg h]
      | false => rfl
theorem dead_get {i d j : Nat} : (dead σ i d).get j = if j = i ∨ j = d then none else σ.get j := by
  rw [dead_def, AS.get_def, AS.get_def]
  dsimp only
  rw [fnd_filter (f := fun x => !(Nat.beq x i) && !(Nat.beq x d))]
  have nb : ∀ x y : Nat, x ≠ y → Nat.beq x y = false := fun x y h => by
    cases q : Nat.beq x y with
    | false => rfl
    | true => exact absurd (Nat.eq_of_beq_eq_true q) h
  by_cases e1 : j = i ∨ j = d
  · have z : (!(Nat.beq j i) && !(Nat.beq j d)) = false := by
      rcases e1 with rfl | rfl
      · rw [Nat.beq_refl]; rfl
      · rw [Nat.beq_refl]; exact Bool.and_false _
    rw [if_pos e1, z]
    cases Nat.blt j σ.n <;> rfl
  · have z : (!(Nat.beq j i) && !(Nat.beq j d)) = true := by
      rw [not_or] at e1
      rw [nb j i e1.1, nb j d e1.2]; rfl
    rw [if_neg e1, z]
    rfl
/-- an object of one's own leaves the ledger -/
theorem St.drop {σ₀ : AS} {ρ₀ : Nat → Addr} {news₀ : List (Addr × Obj)} {j : Nat} {h' : Heap} (S : St prog w sc h₀ fs L m σ ρ news s) (N : Nx fs σ₀ ρ₀ news₀ σ ρ news) (hj : Lv σ j) (lj : σ₀.n ≤ j) (he : ∀ b o, b ≠ ρ j → s.heap.get? b = some o → h'.get? b = some o) :
    ∃ news', St prog w sc h₀ fs L m (dead σ j j) ρ news' { s with heap := h' } ∧ Nx fs σ₀ ρ₀ news₀ (dead σ j j) ρ news' := by
  obtain ⟨aj, hj'⟩ := hj
  obtain ⟨o, m1, m2, _⟩ := S.get hj'
  have old := S.nw _ m1
  have sub : ∀ i a, (dead σ j j).get i = some a → σ.get i = some a ∧ i ≠ j := fun i a h => by
    rw [dead_get] at h
    split at h
    · cases h
    · rename_i hn; rw [not_or] at hn; exact ⟨h, hn.1⟩
  have sub' : ∀ i, Lv (dead σ j j) i → Lv σ i ∧ i ≠ j := fun i ⟨a, h⟩ => ⟨⟨a, (sub i a h).1⟩, (sub i a h).2⟩
  have fresh : ∀ p ∈ news₀, p.1 ≠ ρ j := N.fresh j lj ⟨_, hj'⟩
  have fsi : ∀ q ∈ fs, q.1 ≠ ρ j := fun q hq e => S.sy.sep q hq j ⟨_, hj'⟩ e.symm
  obtain ⟨oL, es, ep, gL, b, c, d⟩ := S.fr.ns
  refine ⟨cut (ρ j) news, ⟨⟨⟨oL, es, ep, he _ _ (fun e => old.2.1 e.symm) gL, b, c, d⟩, fun b o hb => he _ _ (fun e => by rw [e, old.2.2] at hb; cases hb) (S.fr.keep b o hb), S.fr.above⟩,
    fun p hp => ⟨he _ _ (mem_cut.mp hp).2 (S.nw p (mem_cut.mp hp).1).1, (S.nw p (mem_cut.mp hp).1).2⟩,
    fun i a h => ?_, fun i k hi hk => S.sy.inj i k (sub' i hi).1 (sub' k hk).1, cut_nd S.sy.nd, fun q hq => ?_, fun q hq i hi => S.sy.sep q hq i (sub' i hi).1⟩,
    ⟨N.le, N.ext, fun i hi h => N.lv i hi (sub' i h).1, fun i h1 h2 => N.fresh i h1 (sub' i h2).1, fun p hp h1 h2 => mem_cut.mpr ⟨N.keep p hp h1 h2, fresh p hp⟩, fun p hp => ?_⟩⟩
  · obtain ⟨g1, g2⟩ := sub i a h
    obtain ⟨o, e1, e2⟩ := S.sy.own i a g1
    exact ⟨o, mem_cut.mpr ⟨e1, fun e => g2 (S.sy.inj i j ⟨_, g1⟩ ⟨_, hj'⟩ e)⟩, e2⟩
  · obtain ⟨o, e1, e2⟩ := S.sy.frs q hq
    exact ⟨o, mem_cut.mpr ⟨e1, fsi q hq⟩, e2⟩
  · obtain ⟨o, e1⟩ := N.addr p hp
    exact ⟨o, mem_cut.mpr ⟨e1, fresh p hp⟩⟩
/-- an exception goes out of a loop -/
theorem note_back {env : Env} {M : Model} (hfr : A.frames = some (env :: outer)) (out : OutOk outer fs) (hf : env.frame = some L) (hk : env.scope.kind = .function)
    (S : St prog w sc h₀ fs L m σ ρ news s) (X : Ex h₀ fs L (some L) σ ρ news s.heap ev e d oe vs es k t)
    (K : ∀ h' news' oe' vs', St prog w sc h₀ fs L m σ ρ news' { s with heap := h' } → Nx fs σ ρ news σ ρ news' → Ex h₀ fs L (some L) σ ρ news' h' ev e d oe' vs' es k t → E ev { s with heap := h' }) : notedBy M A env (cameBackBy M A env E) ev s := by
  unfold notedBy
  refine note_sound hfr out hf hk S X fun h' news' oe' vs' S' N' X' hT' => ?_
  unfold cameBackBy
  obtain ⟨T0, hT0⟩ := hT'
  have hev := X'.v
  subst hev
  rcases X'.tr with h1 | ⟨T, oT, ts, z, h1, hT, hdT, h3, hzz, hTe, hTL, hTn, hT0'⟩
  · rw [hT0] at h1; cases h1
  · have hsz := (Array.getElem?_eq_some_iff.mp h3).1
    refine wpAny_bind (wpAny_field X'.at_ X'.data h1 ?_)
    rw [if_neg (show ¬ ((Value.ref T == Value.none) = true) from by simp)]
    rw [hf]
    unfold setFlight
    refine wpAny_bind (wpAny_field X'.at_ X'.data h1 ?_)
    rw [if_pos (show (Value.ref T != Value.none) = true from by simp)]
    refine wpAny_setField hT hdT hsz ?_
    have oth : ∀ b, b ≠ T → (h'.update T (Obj.mapFields (·.setIfInBounds 3 (rawInt L)))).get? b = h'.get? b := fun b hb => Heap.get?_update_other _ _ (Ne.symm hb)
    have d3 := Obj.data_mapFields hdT (·.setIfInBounds 3 (rawInt L))
    exact K _ news' oe' vs' (S'.aside oth hTL hTn hT0') N' { X' with at_ := (oth e (Ne.symm hTe)).trans X'.at_, tr := .inr ⟨T, _, _, rawInt L, h1, Heap.get?_update_self _ hT (Obj.isFreed_of_fields d3), d3, by simp [hsz], .inr ⟨L, rfl, rfl⟩, hTe, hTL, hTn, hT0'⟩ }
/-- the next of an iterator -/
theorem next_item {j : Nat} {v : AV} {σ' : AS} {Q : Option Value → Shared → Prop} (h : nextOf σ j = some (some v, σ')) (S : St prog w sc h₀ fs L m σ ρ news s)
    (kk : ∀ u news' s', VR σ'.n ρ v u → St prog w sc h₀ fs L m σ' ρ news' s' → Nx fs σ ρ news σ' ρ news' → Sm s s' → Lv σ' j → Q (some u) s') : wpAny (model prog w) A (pyNext (.ref (ρ j))) Q E s := by
  unfold nextOf at h
  split at h
  · rename_i i n hj
    cases q : Nat.blt i n with
    | false => rw [q] at h; cases h
    | true =>
      rw [q] at h
      cases h
      have hlt : i < n := Nat.le_of_ble_eq_true q
      obtain ⟨o, m1, m2, h1, h2, rfl⟩ := S.get hj
      refine wpAny_pyNext_range_item (x := Int.ofNat i) (left := Int.ofNat (n - i)) (step := 1) m2 (Int.ofNat_lt.mpr (Nat.sub_pos_of_lt hlt)) fun h' hi hs => ?_
      have e1 : (Int.ofNat i) + 1 = Int.ofNat (i + 1) := rfl
      have e2 : Int.ofNat (n - i) - 1 = Int.ofNat (n - (i + 1)) := (Int.ofNat_sub (Nat.sub_pos_of_lt hlt)).symm
      rw [e1, e2] at hi
      obtain ⟨news', S', N'⟩ := S.change (s' := { s with heap := h', toks := s.toks + 1 }) (ao := .itR (i + 1) n) hj (fun b o hb hne => (hs.2 b hne).trans hb) hi ⟨hlt, h2, rfl⟩ rfl
      exact kk _ news' _ ⟨_, rfl⟩ S' N' ⟨rfl, rfl, rfl⟩ ((lv_put ⟨_, hj⟩).mpr ⟨_, hj⟩)
  · rename_i l i hj
    split at h
    · rename_i xs hx
      split at h
      · rename_i u hu
        cases h
        obtain ⟨o, m1, m2, hl, hc, hd⟩ := S.get hj
        obtain ⟨its, I, R⟩ := list_at S (listAt_get hx)
        obtain ⟨uv, g1, g2⟩ := R.nth hu
        refine wpAny_pyNext_list_item (l := ρ l) (i := i) ⟨o, m2, hc, hd⟩ I (x := uv) (by rw [← g1]; exact (Array.getElem?_toList).symm) fun h' hi hs => ?_
        obtain ⟨o', i1, i2, i3⟩ := hi
        obtain ⟨news', S', N'⟩ := S.change (s' := { s with heap := h' }) (ao := .itL l (i + 1)) hj (fun b o hb hne => (hs.2 b hne).trans hb) i1 ⟨hl, i2, i3⟩ rfl
        exact kk _ news' _ g2 S' N' ⟨rfl, rfl, rfl⟩ ((lv_put ⟨_, hj⟩).mpr ⟨_, hj⟩)
      · cases h
    · cases h
  · cases h
theorem next_end {j : Nat} {σ' : AS} {Q : Option Value → Shared → Prop} (h : nextOf σ j = some (none, σ')) (hh : A.handled = none) (S : St prog w sc h₀ fs L m σ ρ news s)
    (kk : σ' = dead σ j j → Lv σ j → ∀ h', (∀ b o, b ≠ ρ j → s.heap.get? b = some o → h'.get? b = some o) → Q none { s with heap := h' }) : wpAny (model prog w) A (pyNext (.ref (ρ j))) Q E s := by
  unfold nextOf at h
  split at h
  · rename_i i n hj
    cases q : Nat.blt i n with
    | true => rw [q] at h; cases h
    | false =>
      rw [q] at h
      cases h
      have hlt : ¬ i < n := fun z => by rw [(show Nat.blt i n = true from Nat.ble_eq_true_of_le z)] at q; cases q
      obtain ⟨o, m1, m2, h1, h2, rfl⟩ := S.get hj
      exact wpAny_pyNext_range_end (x := Int.ofNat i) (left := Int.ofNat (n - i)) (step := 1) hh m2 (by show ((n - i : Nat) : Int) ≤ 0; omega) fun h' hx => kk rfl ⟨_, hj⟩ h' fun b o hb ho => hx b o hb ho
  · rename_i l i hj
    split at h
    · rename_i xs hx
      split at h
      · cases h
      · rename_i hu
        cases h
        obtain ⟨o, m1, m2, hl, hc, hd⟩ := S.get hj
        obtain ⟨its, I, R⟩ := list_at S (listAt_get hx)
        have nth_none : ∀ {xs : List AV} {i : Nat}, nthR xs i = none → xs.length ≤ i := by
          intro xs
          induction xs with
          | nil => intro i _; exact Nat.zero_le _
          | cons y r ih => intro i hi; cases i with
            | zero => cases hi
            | succ i => exact Nat.succ_le_succ (ih hi)
        have hlen := nth_none hu
        have h3 := R.len
        rw [Array.length_toList] at h3
        exact wpAny_pyNext_list_end (l := ρ l) (i := i) hh ⟨o, m2, hc, hd⟩ I (Array.getElem?_eq_none (by omega)) fun h' hx => kk rfl ⟨_, hj⟩ h' fun b o hb ho => hx b o hb ho
    · cases h
  · cases h
theorem iter_sound {v : AV} {vv : Value} {τ : AS} {Q : Value → Shared → Prop} (h : iterOf σ v = some τ) (S : St prog w sc h₀ fs L m σ ρ news s) (hv : VR σ.n ρ v vv)
    (kk : ∀ ρ' news' s', St prog w sc h₀ fs L m τ ρ' news' s' → Nx fs σ ρ news τ ρ' news' → Sm s s' → Lv τ σ.n → Q (.ref (ρ' σ.n)) s') : wpAny (model prog w) A (pyIter vv) Q E s := by
  unfold iterOf at h
  split at h
  · obtain ⟨_, rfl⟩ := hv
    split at h
    · rename_i n hg
      cases h
      obtain ⟨o, m1, m2, hn, t, u, v, rfl⟩ := S.get hg
      refine wpAny_pyIter_range m2 (small_one (by decide) (by decide) (by show -(2 ^ 62) ≤ ((n : Nat) : Int); omega) (by show ((n : Nat) : Int) < 2 ^ 62; omega)) ?_
      have e1 : Builtin.Range.rangeSize 0 (Int.ofNat n) 1 = Int.ofNat (n - 0) := by
        rw [rangeSize_one]
        show (if (0 : Int) < ((n : Nat) : Int) then ((n : Nat) : Int) - 0 else 0) = ((n - 0 : Nat) : Int)
        split <;> omega
      rw [e1]
      obtain ⟨S', X'⟩ := S.alloc (ao := .itR 0 n) (S.fr.push _) (News.push S.fr S.nw _) (News.low S.nw) ⟨Nat.zero_le _, hn, rfl⟩ (s' := { s with heap := s.heap.push { cls := .type "range_iterator", data := .fields #[rawInt 0, rawInt (Int.ofNat (n - 0)), rawInt 1] } }) rfl
      have := kk _ _ _ S' X' ⟨rfl, rfl, rfl⟩ (lv_new.mpr (.inl rfl))
      rw [upd_self] at this
      exact this
    · rename_i xs hg
      cases h
      obtain ⟨its, I, R⟩ := list_at S hg
      refine wpAny_pyIter_list I ?_
      obtain ⟨S', X'⟩ := S.alloc (ao := .itL _ 0) (S.fr.push _) (News.push S.fr S.nw _) (News.low S.nw) ⟨Nat.lt_succ_of_lt (get_lt hg), rfl, by rw [Mine.upd_ext _ _ _ _ (get_lt hg)]; rfl⟩ (s' := { s with heap := s.heap.push { cls := .type "list_iterator", data := .fields #[.ref (ρ _), .int 0 0] } }) rfl
      have := kk _ _ _ S' X' ⟨rfl, rfl, rfl⟩ (lv_new.mpr (.inl rfl))
      rw [upd_self] at this
      exact this
    · cases h
  · cases h
end
end Mine
end

section
open PySem PySem.W PyProof.Rows PySem.Calls
set_option Elab.async false
set_option maxRecDepth 100000
set_option linter.unusedVariables false
namespace Mine
theorem cond_none {α : Type} {c : Bool} {y : Option α} {x : α} (h : cond c none y = some x) : c = false ∧ y = some x := by
  cases c with
  | true => cases h
  | false => exact ⟨rfl, h⟩
theorem one_eq {α : Type} {l : List α} {a : α} (h : one l = some a) : l = [a] := by
  unfold one at h
  split at h
  · cases h; rfl
  · cases h
theorem one1_eq {l : List Expr} {a : Expr} (h : one1 l = some a) : l = [a] := by
  unfold one1 at h
  split at h
  · cases h; rfl
  · cases h
noncomputable def clF (cl : List (Str × Addr)) : List (Str × NameKind) → List (Str × Addr) → Option (List (Str × Addr))
  | [], acc => some acc
  | (x, k) :: r, acc => match k with
    | .free => match cl.lookup x with
      | some a => clF cl r ((x, a) :: acc)
      | none => none
    | _ => clF cl r acc
theorem clF_2 (cl : List (Str × Addr)) (x k r acc) : clF cl ((x, k) :: r) acc = (match k with
    | .free => match cl.lookup x with
      | some a => clF cl r ((x, a) :: acc)
      | none => none
    | _ => clF cl r acc : Option (List (Str × Addr))) := rfl
theorem clF_eq {scope : Scope} {env : Env} {l : List (Str × Addr)} (h : clF env.cells scope.names [] = some l) : closureFor scope env = pure l := by
  unfold closureFor
  have gen : ∀ (ns : List (Str × NameKind)) (acc : List (Str × Addr)), clF env.cells ns acc = some l → (do
      let mut cs := acc
      for (name, kind) in ns do
        if kind == .free then cs := (name, ← cellOf env name) :: cs
      return cs : Sem (List (Str × Addr))) = pure l := by
    intro ns
    induction ns with
    | nil => intro acc h; cases h; rfl
    | cons q r ih =>
      intro acc h
      obtain ⟨x, k⟩ := q
      rw [clF_2] at h
      cases k with
      | free =>
        dsimp only at h
        split at h
        · rename_i a ha
          have := ih _ h
          simp only [List.forIn_cons]
          rw [show cellOf env x = pure a from by unfold cellOf; rw [ha]]
          exact this
        · cases h
      | _ =>
        have := ih _ h
        simp only [List.forIn_cons]
        exact this
  exact gen _ _ h
theorem clSel_clF {n : Nat} {ρ : Nat → Addr} {cl : List (Str × Nat)} {cs : List (Str × Addr)} (hc : CLR n ρ cl cs) : ∀ {ns : List (Str × NameKind)} {acc l : List (Str × Nat)} {acc' : List (Str × Addr)}, clSel cl ns acc = some l → CLR n ρ acc acc' → ∃ l', clF cs ns acc' = some l' ∧ CLR n ρ l l'
  | [], acc, l, acc', h, ha => by cases h; exact ⟨acc', rfl, ha⟩
  | (x, k) :: r, acc, l, acc', h, ha => by
    rw [clSel_2] at h
    rw [clF_2]
    cases k with
    | free =>
      dsimp only at h ⊢
      split at h
      · rename_i i hi
        obtain ⟨h1, h2⟩ := hc.get hi
        rw [h2]
        exact clSel_clF hc h ⟨rfl, h1, rfl, ha⟩
      · cases h
    | _ => exact clSel_clF hc h ha
section
variable {scope : Scope} {env : Env}
theorem relab : ∀ {names : List (Str × NameKind)} {x : Str} {k : NameKind}, names.lookup x = some k → (k = .free → env.scope.kind = .function ∧ env.kindOf x = some .cell) →
    (names.map fun (n, k) => if (k == NameKind.free && env.scope.kind == .function && env.kindOf n == some .cell) then (n, NameKind.cell) else (n, k)).lookup x = some (if k = .free then .cell else k)
  | [], _, _, h, _ => by simp at h
  | (n, q) :: r, x, k, h, hf => by
    have ih := @relab r x k
    show List.lookup x ((if (q == NameKind.free && env.scope.kind == .function && env.kindOf n == some .cell) = true then (n, NameKind.cell) else (n, q)) :: _) = _
    cases hx : x == n with
    | true =>
      have hxn : x = n := eq_of_beq hx
      simp only [List.lookup_cons, hx] at h
      have hqk : q = k := Option.some.inj h
      subst hqk
      by_cases hk : q = .free
      · obtain ⟨h1, h2⟩ := hf hk
        subst hk hxn
        rw [if_pos (by rw [h1, h2]; rfl), if_pos rfl, List.lookup_cons, hx]
      · rw [if_neg (by cases q <;> first | exact absurd rfl hk | exact Bool.false_ne_true), if_neg hk, List.lookup_cons, hx]
    | false =>
      simp only [List.lookup_cons, hx] at h
      by_cases hc : (q == NameKind.free && env.scope.kind == .function && env.kindOf n == some .cell) = true
      · rw [if_pos hc]; simp only [List.lookup_cons, hx]; exact ih h hf
      · rw [if_neg hc]; simp only [List.lookup_cons, hx]; exact ih h hf
end
section
variable {prog : Program} {w : World} {sc : List Int} {h₀ : Heap} {T : ITab} {K : Frag} {p : Program} {loose : List Str} {mean : ExcName → Option Value} {mg mb : Str → Option Value}
variable {A : Around} {cn : Str} {a : Addr} {ccd : Value} {cl : List (Str × Addr)} {outer : List Env} {fs : Fs} {L : Addr} {m : Str → Option Value} {fe : FE} {lc : Lc} {σ : AS} {ρ : Nat → Addr} {news : List (Addr × Obj)} {s : Shared} {E : Value → Shared → Prop}
theorem base_eq {env : Env} {value : Expr} {at' : Str} (hb : basOk value = true) : attributeBase value at' env (eval value env) = eval value env := by
  cases value with
  | Call f es kw p => cases f with
    | Name y q => cases es with
      | nil => cases hb
      | cons _ _ => rfl
    | _ => cases hb
  | _ => first
    | rfl
    | cases hb
theorem attr_sound {env : Env} {value : Expr} {at' : Str} {pos : Pos} {Q : Value → Shared → Prop} (hb : basOk value = true)
    (h : wpAny (model prog w) A (eval value env) (fun o s₁ => wpAny (model prog w) A (getAttr o at' true) Q E s₁) E s) : wpAny (model prog w) A (eval (.Attribute value at' pos) env) Q E s := by
  refine Attribute_any_ h ?_
  rw [arm_eval_Attribute, base_eq hb]
theorem isCellK_eq {x : Option NameKind} (h : isCellK x = true) : x = some .cell := by
  unfold isCellK at h
  split at h
  · rfl
  · cases h
/-- what is known in the block of a comprehension -/
structure Bk (B : CB) (scope : Scope) (clos : List (Str × Addr)) (C : Addr) (σ : AS) (ρ : Nat → Addr) : Prop where
  nm : B.ns = scope.names
  kd : scope.kind = .function
  cl : CLR σ.n ρ B.cl clos
  at_ : B.c < σ.n ∧ ρ B.c = C
theorem Bk.next {B : CB} {scope : Scope} {clos : List (Str × Addr)} {C : Addr} {σ' : AS} {ρ' : Nat → Addr} {news' : List (Addr × Obj)} (b : Bk B scope clos C σ ρ) (N : Nx fs σ ρ news σ' ρ' news') : Bk B scope clos C σ' ρ' :=
  ⟨b.nm, b.kd, b.cl.mono N.le N.ext, Nat.lt_of_lt_of_le b.at_.1 N.le, by rw [N.ext _ b.at_.1]; exact b.at_.2⟩
theorem ns_at {c : Nat} {lc : Lc} (S : St prog w sc h₀ fs L m σ ρ news s) (h : σ.get c = some (.ns lc)) : ∃ m, s.heap.Ns (ρ c) m ∧ LcR σ.n ρ lc m := by
  obtain ⟨o, m1, m2, mm, ⟨es, ep, e1, e2, e3⟩, hl⟩ := S.get h
  exact ⟨mm, ⟨o, es, ep, m2, e1, e2, e3⟩, hl⟩
theorem cname_sound (G : Glb T K p loose mean mg mb h₀) {B : CB} {scope : Scope} {clos : List (Str × Addr)} {C : Addr} {y : Str} {pos : Pos} {v : AV} {Q : Value → Shared → Prop} (h : cnm T fe B y σ = some v) (hk : fe.sc.kind = .function) (S : St prog w sc h₀ fs L m σ ρ news s) (b : Bk B scope clos C σ ρ)
    (k : ∀ u, VR σ.n ρ v u → Q u s) : wpAny (model prog w) A (eval (.Name y pos) (compEnvC scope clos C (envX cn fe.sc L a ccd cl))) Q E s := by
  unfold cnm at h
  have dbg : (y == ("__debug__" : Str)) = false := by
    cases q : sEq y (Str.ofString "__debug__") with
    | true => rw [q] at h; cases h
    | false => rw [← sEq_beq]; exact q
  rw [sEq_beq, dbg, cond_false] at h
  have hkc : (compEnvC scope clos C (envX cn fe.sc L a ccd cl)).scope.kind = .function := b.kd
  have kof : ∀ {k : NameKind}, lk B.ns y = some k → (k = .free → (envX cn fe.sc L a ccd cl).kindOf y = some .cell) → (compEnvC scope clos C (envX cn fe.sc L a ccd cl)).kindOf y = some (if k = .free then .cell else k) := fun h1 h2 => by
    show (relabel scope (envX cn fe.sc L a ccd cl)).names.lookup y = _
    unfold relabel
    exact relab (by rw [← b.nm, ← lk_eq]; exact h1) fun e => ⟨hk, h2 e⟩
  unfold cnmO at h
  split at h
  · rename_i hq
    split at h
    · rename_i lc' hg
      obtain ⟨mm, hn, hl⟩ := ns_at S hg
      rw [b.at_.2] at hn
      obtain ⟨u, h1, h2⟩ := hl y v h
      exact wpAny_Name (wpAny_loadName_local hkc (kof hq (fun e => by cases e)) hn h1 (k u h2)) dbg
    · cases h
  · rename_i hq
    obtain ⟨hc, h⟩ := cond_some h
    have hc := isCellK_eq hc
    split at h
    · rename_i i hi
      obtain ⟨h1, h2⟩ := b.cl.get hi
      obtain ⟨o, m1, m2, m3⟩ := S.get (cellAt_get h)
      obtain ⟨u, e1, e2⟩ := m3
      exact wpAny_Name (wpAny_loadName_cell hkc (kof hq (fun _ => by rw [kindOf_env]; exact hc)) h2 ⟨o, m2, e1⟩ (k u e2)) dbg
    · cases h
  · rename_i hq
    have X := topRead_of G.top
    split at h
    · rename_i u hu
      cases h
      obtain ⟨u, e1, e2⟩ := G.gt y v hu
      exact nameG_K S.fr G.X X e1 (k u (e2.vr _ _)) rfl hkc (kof hq (fun e => by cases e)) dbg
    · rename_i hu
      obtain ⟨u, e1, e2, e3, e4⟩ := G.bt y v hu h
      exact Name_function_global hkc (kof hq (fun e => by cases e)) (loadGlobal_builtin (env := compEnvC scope clos C (envX cn fe.sc L a ccd cl)) (X.g.keeps S.fr.keep) (mg_none_of G.X X.g e1) (X.b.keeps S.fr.keep) ((X.builtins y e3).trans e2) (k u (e4.vr _ _))) dbg
  · cases h
theorem cev_sound (G : Glb T K p loose mean mg mb h₀) {r : Rc} {n : Nat} (H : Snd prog w sc h₀ r n) {B : CB} {scope : Scope} {clos : List (Str × Addr)} {C : Addr} (ax : AX A (envX cn fe.sc L a ccd cl) outer L fs n) :
    ∀ {c : Nat} {e : Expr} {σ : AS} {x : Option AV × AS}, cev T r fe B c e σ = some x → ∀ {ρ : Nat → Addr} {news : List (Addr × Obj)} {s : Shared} {Q : Value → Shared → Prop}, St prog w sc h₀ fs L m σ ρ news s → Bk B scope clos C σ ρ → Kc prog w sc h₀ fs L m VR σ ρ news s x Q E →
      wpAny (model prog w) A (eval e (compEnvC scope clos C (envX cn fe.sc L a ccd cl))) Q E s
  | 0, _, _, _, h, _, _, _, _, _, _, _ => nomatch h
  | c + 1, e, σ, x, h, ρ, news, s, Q, S, b, k => by
    cases e with
    | Constant c0 k0 p0 =>
      have h : lift σ (cAV c0) = some x := h
      obtain ⟨v, hv, rfl⟩ := lift_some h
      unfold cAV at hv
      split at hv
      · cases hv; exact wpAny_Constant_none (k.done S (Sm.rfl s) rfl)
      · cases hv; exact Constant_bool (k.done S (Sm.rfl s) rfl)
      · cases hv; exact wpAny_Constant_int (k.done (S.of_heap rfl) (sm_toks s _) ⟨_, rfl⟩)
      · cases hv; exact Constant_str (k.done (S.of_heap rfl) (sm_toks s _) ⟨_, rfl⟩)
      · cases hv
    | Name y0 p0 =>
      have h : lift σ (cnm T fe B y0 σ) = some x := h
      obtain ⟨v, hv, rfl⟩ := lift_some h
      exact cname_sound G hv ax.kind S b fun u hu => k.done S (Sm.rfl s) hu
    | Attribute b0 a0 p0 =>
      have h : cond (basOk b0) (bd (cev T r fe B c b0 σ) fun v σ => lift σ (getF T σ v a0)) .none = some x := h
      obtain ⟨hb0, h⟩ := cond_some h
      obtain ⟨z, hz, _⟩ := bd_some h
      refine attr_sound hb0 (cev_sound G H ax hz S b (Kc.bind h hz k fun v hf ρ₁ news₁ s₁ S N M b1 hb k' => ?_))
      obtain ⟨u, hu, rfl⟩ := lift_some hf
      exact getF_sound G hu S hb fun uv g => k'.done (S.of_heap rfl) (sm_toks s₁ _) g
    | Subscript b0 i0 p0 =>
      have h : cond (isSl i0) .none (bd (cev T r fe B c b0 σ) fun v σ => bd (cev T r fe B c i0 σ) fun u σ => lift σ (itemOf T σ v u)) = some x := h
      obtain ⟨hs, h⟩ := cond_none h
      obtain ⟨z, hz, _⟩ := bd_some h
      refine Subscript_ (cev_sound G H ax hz S b (Kc.bind h hz k fun v hf ρ₁ news₁ s₁ S N M b1 hb k' => ?_))
      obtain ⟨y, hy, _⟩ := bd_some hf
      refine cev_sound G H ax hy S (b.next N) (Kc.bind hf hy k' fun u hg ρ₂ news₂ s₂ S' N' M' b' hb' k'' => ?_)
      obtain ⟨u', hu, rfl⟩ := lift_some hg
      exact item_sound G hu hs S' (N'.vr hb) hb' (KO.of k'' rfl S')
    | Call f0 es0 kw0 p0 =>
      have h : cond kw0.isEmpty _ .none = some x := h
      obtain ⟨hkw, h⟩ := cond_some h
      rw [List.isEmpty_iff.mp hkw]
      cases f0 with
      | Name y1 q1 =>
        have h : (match one1 es0 with | some e => cond (isStar e) .none (bd (lift σ (cnm T fe B y1 σ)) fun fv σ => cond (isGlob fv && kpOf T fv) (bd (cev T r fe B c e σ) fun v σ => r.ca fv [v] σ) .none) | .none => .none) = some x := h
        split at h
        · rename_i e1 he1
          rw [one1_eq he1]
          obtain ⟨hst, h⟩ := cond_none h
          obtain ⟨z, hz, hf⟩ := bd_some h
          obtain ⟨fv, hv, rfl⟩ := lift_some hz
          dsimp only at hf
          obtain ⟨hc, hf⟩ := cond_some hf
          rw [Bool.and_eq_true] at hc
          refine Call_ (cname_sound G hv ax.kind S b fun u hu => ?_)
          cases fv with
          | glob g =>
            rw [show u = _ from hu]
            obtain ⟨z, hz, _⟩ := bd_some hf
            refine callWith_K G.X (G.kp g hc.2) ?_ (star_eq hst) rfl
            refine wpAny_items_cons (cev_sound G H ax hz S b (Kc.bind hf hz k fun v hg ρ₁ news₁ s₁ S₁ N M b1 hb k' => wpAny_items_nil ⟨G.X.keeps S₁.fr.keep, ?_⟩)) (star_eq hst)
            exact H.ca (.glob g) [v] z.2 x hg A _ outer fs L m ρ₁ news₁ s₁ (.ref g) [b1] Q E ax S₁ rfl ⟨hb, trivial⟩ k'
          | _ => cases hc.1
        · cases h
      | _ => cases h
    | _ => cases h
end
end Mine
end

section
open PySem PySem.W PyProof.Rows PySem.Calls
set_option Elab.async false
set_option maxRecDepth 100000
set_option linter.unusedVariables false
namespace Mine
theorem fnd_app : ∀ {a b : List (Nat × AO)} {i : Nat}, fnd (a ++ b) i = (match fnd a i with | some x => some x | none => fnd b i)
  | [], b, i => rfl
  | (j, x) :: r, b, i => by
    simp only [List.cons_append, fnd_cons]
    cases q : Nat.beq j i with
    | true => rfl
    | false => exact fnd_app
theorem pk_get {τ : AS} : ∀ {l : List Nat} {i : Nat} {a : AO}, fnd (pk l τ) i = some a → τ.get i = some a
  | [], _, _, h => nomatch h
  | j :: r, i, a, h => by
    rw [pk_2] at h
    split at h
    · rename_i x hx
      simp only [fnd_cons, fnd_nil] at h
      cases q : Nat.beq j i with
      | true => rw [q] at h; cases h; rw [← Nat.eq_of_beq_eq_true q]; exact hx
      | false => rw [q] at h; exact pk_get h
    · exact pk_get h
theorem allIn_mem {i : Nat} : ∀ {l : List (Nat × AO)} {r : List Nat}, allIn l r = true → i ∈ r → ∃ a, fnd l i = some a
  | [], [], _, hm => nomatch hm
  | [], _ :: _, h, _ => nomatch h
  | _ :: _, [], _, hm => nomatch hm
  | p :: l, j :: t, h, hm => by
    have up : (∃ a, fnd l i = some a) → ∃ a, fnd (p :: l) i = some a := fun ⟨a, ha⟩ => by
      rw [fnd_cons]
      cases Nat.beq p.1 i with
      | true => exact ⟨_, rfl⟩
      | false => exact ⟨a, ha⟩
    rw [allIn_2] at h
    dsimp only at h
    cases q : Nat.beq p.1 j with
    | true =>
      rw [q, cond_true] at h
      rcases List.mem_cons.mp hm with rfl | hm
      · rw [fnd_cons, q]; exact ⟨_, rfl⟩
      · exact up (allIn_mem h hm)
    | false =>
      rw [q, cond_false] at h
      exact up (allIn_mem h hm)
theorem fnd_ky {i : Nat} {a : AO} : ∀ {l : List (Nat × AO)}, fnd l i = some a → i ∈ ky l
  | [], h => nomatch h
  | (j, x) :: r, h => by
    simp only [fnd_cons, fnd_nil] at h
    rw [ky_2]
    cases q : Nat.beq j i with
    | true => rw [Nat.eq_of_beq_eq_true q]; exact .head _
    | false => rw [q] at h; exact .tail _ (fnd_ky h)
theorem keysLt_lt {n : Nat} : ∀ {l : List (Nat × AO)} {i : Nat} {a : AO}, keysLt n l = true → fnd l i = some a → i < n
  | [], _, _, _, h => nomatch h
  | (j, x) :: r, i, a, hk, h => by
    rw [keysLt_2] at hk
    obtain ⟨h1, h2⟩ : Nat.blt j n = true ∧ keysLt n r = true := by
      cases q : Nat.blt j n with
      | true => rw [show Nat.blt (j, x).1 n = true from q] at hk; exact ⟨rfl, hk⟩
      | false => rw [show Nat.blt (j, x).1 n = false from q] at hk; cases hk
    simp only [fnd_cons, fnd_nil] at h
    cases q : Nat.beq j i with
    | true => rw [← Nat.eq_of_beq_eq_true q]; exact Nat.le_of_ble_eq_true h1
    | false => rw [q] at h; exact keysLt_lt h2 h
theorem get_fnd {σ : AS} {i : Nat} {a : AO} (h : σ.get i = some a) : fnd σ.o i = some a := by
  rw [AS.get_def] at h
  cases q : Nat.blt i σ.n with
  | true => rw [q] at h; exact h
  | false => rw [q] at h; cases h
theorem fnd_get {σ : AS} {i : Nat} {a : AO} (h : fnd σ.o i = some a) (hi : i < σ.n) : σ.get i = some a := by
  rw [AS.get_def]
  rw [(show Nat.blt i σ.n = true from Nat.ble_eq_true_of_le hi)]
  exact h
section
variable {prog : Program} {w : World} {sc : List Int} {h₀ : Heap} {T : ITab} {K : Frag} {p : Program} {loose : List Str} {mean : ExcName → Option Value} {mg mb : Str → Option Value}
variable {A : Around} {cn : Str} {a : Addr} {ccd : Value} {cl : List (Str × Addr)} {outer : List Env} {fs : Fs} {L : Addr} {m : Str → Option Value} {fe : FE} {lc : Lc} {σ : AS} {ρ : Nat → Addr} {news : List (Addr × Obj)} {s : Shared} {E : Value → Shared → Prop}
/-- a part is worked on (sel), the rest stands -/
theorem St.part {sel new : List Nat} {wd : Nat} {τ : AS} {ρ' : Nat → Addr} {news' : List (Addr × Obj)} {s' : Shared} {m' : Str → Option Value} (S : St prog w sc h₀ fs L m σ ρ news s) (c : (Nat.ble τ.n (σ.n + wd) && allIn (pk (sel ++ new) τ) (ky (pk sel σ)) && keysLt σ.n σ.o) = true)
    (S' : St prog w sc h₀ fs L m' τ ρ' news' s') (N' : Nx fs ⟨pk sel σ, σ.n⟩ ρ news τ ρ' news') :
    St prog w sc h₀ fs L m' ⟨pk (sel ++ new) τ ++ σ.o, σ.n + wd⟩ ρ' news' s' ∧ Nx fs σ ρ news ⟨pk (sel ++ new) τ ++ σ.o, σ.n + wd⟩ ρ' news' ∧ τ.n ≤ σ.n + wd ∧
      ∀ i a, (⟨pk (sel ++ new) τ ++ σ.o, σ.n + wd⟩ : AS).get i = some a → τ.get i = some a ∨ (¬ Lv ⟨pk sel σ, σ.n⟩ i ∧ σ.get i = some a) := by
  rw [Bool.and_eq_true, Bool.and_eq_true] at c
  obtain ⟨⟨c1, c2⟩, c3⟩ := c
  have c1 := Nat.le_of_ble_eq_true c1
  have sub : ∀ i a, (⟨pk sel σ, σ.n⟩ : AS).get i = some a → σ.get i = some a := fun i a h => pk_get (get_fnd h)
  have from_ : ∀ i a, (⟨pk (sel ++ new) τ ++ σ.o, σ.n + wd⟩ : AS).get i = some a → τ.get i = some a ∨ (¬ Lv ⟨pk sel σ, σ.n⟩ i ∧ σ.get i = some a) := fun i a h => by
    have h := get_fnd h
    rw [show (⟨pk (sel ++ new) τ ++ σ.o, σ.n + wd⟩ : AS).o = pk (sel ++ new) τ ++ σ.o from rfl, fnd_app] at h
    split at h
    · rename_i x hx; cases h; exact .inl (pk_get hx)
    · rename_i hn
      refine .inr ⟨fun ⟨b, hb⟩ => ?_, fnd_get h (keysLt_lt c3 h)⟩
      obtain ⟨c, hc⟩ := allIn_mem c2 (fnd_ky (get_fnd hb))
      rw [hn] at hc; cases hc
  obtain ⟨S2, N2⟩ := S.merge (π := ⟨pk sel σ, σ.n⟩) (τ := ⟨pk (sel ++ new) τ ++ σ.o, σ.n + wd⟩) (Nat.le_refl _) sub S' N' c1 from_
  exact ⟨S2, N2, c1, from_⟩
theorem cte_sound (G : Glb T K p loose mean mg mb h₀) {r : Rc} {n : Nat} (H : Snd prog w sc h₀ r n) {B : CB} {scope : Scope} {clos : List (Str × Addr)} {C : Addr} (ax : AX A (envX cn fe.sc L a ccd cl) outer L fs n)
    {e : Expr} {x : Option Bool × AS} {Q : Bool → Shared → Prop} (h : cte T r fe B e σ = some x) (S : St prog w sc h₀ fs L m σ ρ news s) (b : Bk B scope clos C σ ρ) (k : Kc prog w sc h₀ fs L m BR σ ρ news s x Q E) :
    wpAny (model prog w) A (PySem.isTrue e (compEnvC scope clos C (envX cn fe.sc L a ccd cl)) (eval e (compEnvC scope clos C (envX cn fe.sc L a ccd cl)))) Q E s := by
  cases e with
  | Compare e1 ops bs _ =>
    have h : (match one ops with | some op => (match one bs with | some b => cond (behindInMarks op b) .none (bd (cev T r fe B 8 e1 σ) fun v σ => bd (cev T r fe B 8 b σ) fun u σ => lift σ (cmpOf T σ op v u)) | .none => .none) | .none => .none) = some x := h
    split at h
    · rename_i op hop
      split at h
      · rename_i e2 hbb
        rw [one_eq hop, one_eq hbb]
        obtain ⟨hs, h⟩ := cond_none h
        obtain ⟨z, hz, _⟩ := bd_some h
        refine wpAny_isTrue_Compare1 (cev_sound G H ax hz S b (Kc.bind h hz k fun v hf ρ₁ news₁ s₁ S₁ N M b1 hb k' => ?_)) hs
        obtain ⟨y, hy, _⟩ := bd_some hf
        refine cev_sound G H ax hy S₁ (b.next N) (Kc.bind hf hy k' fun u hg ρ₂ news₂ s₂ S' N' M' b' hb' k'' => ?_)
        obtain ⟨t, ht, rfl⟩ := lift_some hg
        exact cmp_sound G ht S' (un_lt ax.un (by decide)) (N'.vr hb) hb' (wpAny_truthy_bool (k''.done S' (Sm.rfl _) rfl))
      · cases h
    · cases h
  | _ => cases h
/-- what an element leaves: none if the test says no -/
noncomputable def KE' (prog : Program) (w : World) (sc : List Int) (h₀ : Heap) (fs : Fs) (L : Addr) (m : Str → Option Value) (σ : AS) (ρ : Nat → Addr) (news : List (Addr × Obj)) (s : Shared) (ou : Option AV) (σ' : AS) (Qy : Value → Shared → Prop) (Qn : Shared → Prop) : Prop :=
  ∀ ρ' news' s', St prog w sc h₀ fs L m σ' ρ' news' s' → Nx fs σ ρ news σ' ρ' news' → Sm s s' → match ou with
    | some u => ∀ v, VR σ'.n ρ' u v → Qy v s'
    | none => Qn s'
theorem cel_eq {r : Rc} {B : CB} {elt : Expr} {ou : Option AV} {σ' : AS} (h : cel T r fe B elt σ = some (ou, σ')) : ∃ u, ou = some u ∧ cev T r fe B 8 elt σ = some (some u, σ') := by
  unfold cel at h
  split at h
  · split at h
    · cases h; exact ⟨_, rfl, ‹_›⟩
    · cases h
  · cases h
theorem elt_sound (G : Glb T K p loose mean mg mb h₀) {r : Rc} {n : Nat} (H : Snd prog w sc h₀ r n) {B : CB} {scope : Scope} {clos : List (Str × Addr)} {C : Addr} (ax : AX A (envX cn fe.sc L a ccd cl) outer L fs n)
    {elt : Expr} {ifs : List Expr} {ou : Option AV} {σ' : AS} {Qy : Value → Shared → Prop} {Qn : Shared → Prop} (h : compElt T r fe B elt ifs σ = some (ou, σ')) (S : St prog w sc h₀ fs L m σ ρ news s) (b : Bk B scope clos C σ ρ) (k : KE' prog w sc h₀ fs L m σ ρ news s ou σ' Qy Qn) :
    wpAny (model prog w) A (forIn ifs true fun c r => if r = true then do let ok ← isTrue c (compEnvC scope clos C (envX cn fe.sc L a ccd cl)) (eval c (compEnvC scope clos C (envX cn fe.sc L a ccd cl))); pure (ForInStep.yield ok) else pure (ForInStep.yield r)) (fun ok s₃ =>
      if ok = true then wpAny (model prog w) A (eval elt (compEnvC scope clos C (envX cn fe.sc L a ccd cl))) Qy E s₃ else Qn s₃) E s := by
  unfold compElt at h
  cases ifs with
  | nil =>
    obtain ⟨u, rfl, hc⟩ := cel_eq h
    refine wpAny_tests_nil ?_
    rw [if_pos rfl]
    exact cev_sound G H ax hc S b fun ρ' news' s' S' N' M' => k ρ' news' s' S' N' M'
  | cons t ts => cases ts with
    | cons _ _ => cases h
    | nil =>
      dsimp only at h
      split at h
      · rename_i ob σ1 ht
        split at h
        · rename_i bb
          refine wpAny_tests_one (cte_sound G H ax ht S b ?_)
          intro ρ1 news1 s1 S1 N1 M1 b' hb'
          cases hb'
          cases bb with
          | true =>
            obtain ⟨u, rfl, hc⟩ := cel_eq (show cel T r fe B elt σ1 = some (ou, σ') from h)
            rw [if_pos rfl]
            exact cev_sound G H ax hc S1 (b.next N1) fun ρ' news' s' S' N' M' => k ρ' news' s' S' (N1.trans N') (M1.trans M')
          | false =>
            cases h
            rw [if_neg Bool.false_ne_true]
            exact k ρ1 news1 s1 S1 N1 M1
        · cases h
      · cases h
theorem compT_sound (G : Glb T K p loose mean mg mb h₀) {r : Rc} {n : Nat} (H : Snd prog w sc h₀ r n) {B : CB} {scope : Scope} {clos : List (Str × Addr)} {C : Addr} (ax : AX A (envX cn fe.sc L a ccd cl) outer L fs n)
    {elt : Expr} {ifs : List Expr} {key : Nat} {v : AV} {ou : Option AV} {σ' : AS} {Qy : Value → Shared → Prop} {Qn : Shared → Prop} (h : compT T r fe B elt ifs key v σ = some (ou, σ')) (S : St prog w sc h₀ fs L m σ ρ news s) (b : Bk B scope clos C σ ρ) (k : KE' prog w sc h₀ fs L m σ ρ news s ou σ' Qy Qn) :
    wpAny (model prog w) A (forIn ifs true fun c r => if r = true then do let ok ← isTrue c (compEnvC scope clos C (envX cn fe.sc L a ccd cl)) (eval c (compEnvC scope clos C (envX cn fe.sc L a ccd cl))); pure (ForInStep.yield ok) else pure (ForInStep.yield r)) (fun ok s₃ =>
      if ok = true then wpAny (model prog w) A (eval elt (compEnvC scope clos C (envX cn fe.sc L a ccd cl))) Qy E s₃ else Qn s₃) E s := by
  unfold compT at h
  split at h
  · exact elt_sound G H ax h S b k
  · rename_i f hf
    rw [wn_eq] at h
    split at h
    · rename_i u τ hx
      rw [wn_eq] at h
      obtain ⟨hc, h⟩ := cond_some h
      cases h
      have sub : ∀ i a, (⟨pk (B.c :: f.sel) σ, σ.n⟩ : AS).get i = some a → σ.get i = some a := fun i a h => pk_get (get_fnd h)
      obtain ⟨Sp, Np⟩ := S.sub (τ := ⟨pk (B.c :: f.sel) σ, σ.n⟩) (Nat.le_refl _) sub
      refine elt_sound G H ax hx Sp ⟨b.nm, b.kd, b.cl, b.at_⟩ fun ρ' news' s' S' N' M' => ?_
      obtain ⟨S2, N2, c1, _⟩ := S.part (sel := B.c :: f.sel) (new := addN σ.n f.new) hc S' N'
      have q := k ρ' news' s' S2 N2 M'
      cases ou with
      | some u => exact fun v hv => q v (hv.mono c1 (fun _ _ => rfl))
      | none => exact q
    · cases h
theorem comp_loop (G : Glb T K p loose mean mg mb h₀) {r : Rc} {n : Nat} (H : Snd prog w sc h₀ r n) {B : CB} {scope : Scope} {clos : List (Str × Addr)} {C : Addr} (ax : AX A (envX cn fe.sc L a ccd cl) outer L fs n)
    {x : Str} {px : Pos} {elt iter : Expr} {ifs : List Expr} {key j ac : Nat} {σf : AS} {pos : Pos} {R : Result → Shared → Prop} {σ₀ : AS} {ρ₀ : Nat → Addr} {news₀ : List (Addr × Obj)} {s₀ : Shared} {c : Nat} (hx : lk scope.names x = some .local)
    (h : compN T r fe B x elt ifs key j ac c σ = some σf) (S : St prog w sc h₀ fs L m σ ρ news s) (N₀ : Nx fs σ₀ ρ₀ news₀ σ ρ news) (M₀ : Sm s₀ s) (b : Bk B scope clos C σ ρ) (hj : j < σ.n ∧ σ₀.n ≤ j) (ha : ac < σ.n)
    (k : ∀ ρ' news' s', St prog w sc h₀ fs L m σf ρ' news' s' → Nx fs σ₀ ρ₀ news₀ σf ρ' news' → Sm s₀ s' → ρ' ac = ρ ac → ρ' B.c = C → R (.ok .next) s') :
    codeAny (model prog w) A (.compLoop (.ListComp elt [⟨.Name x px, iter, ifs, 0⟩] scope pos) 0 (.ref (ρ j)) (.ref (ρ ac)) (compEnvC scope clos C (envX cn fe.sc L a ccd cl))) R s := by
  have hp : ((compEnvC scope clos C (envX cn fe.sc L a ccd cl)).scope.kind == .class || ((compEnvC scope clos C (envX cn fe.sc L a ccd cl)).scope.kind == .module && (compEnvC scope clos C (envX cn fe.sc L a ccd cl)).locals != (compEnvC scope clos C (envX cn fe.sc L a ccd cl)).globals)) = false := by
    show (scope.kind == .class || (scope.kind == .module && C != mainGlobals)) = false
    rw [b.kd]; rfl
  have hxl : (compEnvC scope clos C (envX cn fe.sc L a ccd cl)).kindOf x = some .local := by
    show (relabel scope (envX cn fe.sc L a ccd cl)).names.lookup x = _
    exact lookup_relabel_local (by rw [← lk_eq]; exact hx)
  refine codeAny_compLoop_tests (fun c s => ∃ (σ : AS) (ρ' : Nat → Addr) (news : List (Addr × Obj)), compN T r fe B x elt ifs key j ac c σ = some σf ∧ St prog w sc h₀ fs L m σ ρ' news s ∧ Nx fs σ₀ ρ₀ news₀ σ ρ' news ∧ Sm s₀ s ∧ Bk B scope clos C σ ρ' ∧ (j < σ.n ∧ ρ' j = ρ j) ∧ (ac < σ.n ∧ ρ' ac = ρ ac))
    ?_ c ⟨σ, ρ, news, h, S, N₀, M₀, b, ⟨hj.1, rfl⟩, ⟨ha, rfl⟩⟩
  rintro c s ⟨σ, ρ', news, h, S, N₀, M₀, b, ⟨hjn, hjr⟩, ⟨han, har⟩⟩
  rw [← hjr, ← har]
  cases c with
  | zero => cases h
  | succ c =>
    rw [compN_2] at h
    split at h
    · rename_i ov σ1 hn
      cases ov with
      | none =>
        cases h
        refine next_end hn ax.hand S fun e0 hj0 h' he => ?_
        subst e0
        obtain ⟨news2, S2, N2⟩ := S.drop (h' := h') N₀ hj0 hj.2 he
        exact k ρ' news2 _ S2 N2 (M₀.trans ⟨rfl, rfl, rfl⟩) har b.at_.2
      | some v =>
        dsimp only at h
        refine next_item hn S fun u news1 s1 hu S1 N1 M1 hj1 => ?_
        dsimp only
        have b1 := b.next N1
        split at h
        · rename_i lc0 hc
          obtain ⟨m0, hns, _⟩ := ns_at S1 hc
          rw [b1.at_.2] at hns
          refine wpAny_assign_Name (wpAny_storeName_local hxl hns (fun h2 hn2 hs2 => ?_) hp)
          obtain ⟨o2, es2, ep2, g1, g2, g3, g4⟩ := hn2
          obtain ⟨news2, S2, N2⟩ := S1.change (s' := { s1 with heap := h2, toks := s1.toks + 1 }) (ao := .ns [(x, v)]) (o' := o2) hc (fun b o hb hne => (hs2.2 b (by rw [b1.at_.2] at hne; exact hne)).trans hb) (by rw [b1.at_.2]; exact g1)
            ⟨_, ⟨es2, ep2, g2, g3, g4⟩, fun y a' e => by
              simp only [lk_1, lk_2] at e
              cases q : sEq x y with
              | true =>
                rw [q] at e; cases e
                have hxy := sEq_iff.mp q
                subst hxy
                exact ⟨u, if_pos rfl, hu⟩
              | false => rw [q] at e; cases e⟩ rfl
          have b2 := b1.next N2
          split at h
          · rename_i ou σ3 hT
            refine compT_sound G H ax hT S2 b2 ?_
            intro ρ3 news3 s3 S3 N3 M3
            have NN := (N1.trans N2).trans N3
            have MM := ((M1.trans (show Sm s1 { s1 with heap := h2, toks := s1.toks + 1 } from ⟨rfl, rfl, rfl⟩)).trans M3)
            have b3 := b2.next N3
            have hj3 : j < σ3.n ∧ ρ3 j = ρ' j := ⟨Nat.lt_of_lt_of_le hjn NN.le, NN.ext j hjn⟩
            have ha3 : ac < σ3.n ∧ ρ3 ac = ρ' ac := ⟨Nat.lt_of_lt_of_le han NN.le, NN.ext ac han⟩
            split at h
            · rename_i u1
              split at h
              · rename_i xs hxs
                obtain ⟨hle, h⟩ := cond_some h
                intro uv huv
                have hgx := listAt_get hxs
                obtain ⟨o', p1, p2, its', ep', p3, p4⟩ := S3.get hgx
                subst p3
                obtain ⟨g, U, Ch⟩ := updF_ex p1 S3.sy.nd
                have hl := p4.len
                have hl2 := Nat.le_of_ble_eq_true hle
                have hsz : its'.size ≤ sizeLine := by rw [sizeLine_eq]; have e : its'.size = its'.toList.length := Array.length_toList.symm; omega
                rw [← ha3.2]
                refine append_K S3.fr S3.nw (upd_of_F _ U) (fun h' F' N' => ?_) hsz
                have app1 : ∀ {xs : List AV} {ys : List Value}, LR σ3.n ρ3 xs ys → LR σ3.n ρ3 (xs ++ [u1]) (ys ++ [uv]) := fun h => LR.append h ⟨huv, trivial⟩
                obtain ⟨S4, N4⟩ := S3.put ⟨_, hgx⟩ (Ch _) F' N' (ao := .list (xs ++ [u1])) (s' := { s3 with heap := h' }) ⟨_, _, rfl, by rw [Array.toList_push]; exact app1 p4⟩ rfl
                exact ⟨c, Nat.lt_succ_self _, _, ρ3, _, h, S4, (N₀.trans NN).trans N4, (M₀.trans MM).trans ⟨rfl, rfl, rfl⟩, b3.next N4, hj3, ha3.1, rfl⟩
              · cases h
            · exact ⟨c, Nat.lt_succ_self _, _, ρ3, _, h, S3, N₀.trans NN, M₀.trans MM, b3, hj3, ha3⟩
          · cases h
        · cases h
    · cases h
end
end Mine
end

section
open PySem PySem.W PyProof.Rows PySem.Calls
set_option Elab.async false
set_option maxRecDepth 100000
set_option linter.unusedVariables false
namespace Mine
theorem noCell_mem : ∀ {ns : List (Str × NameKind)}, noCell ns = true → ∀ x ∈ ns, x.2 ≠ .cell
  | [], _, _, h => nomatch h
  | (y, kd) :: r, h, x, hx => by
    rw [noCell_2] at h
    cases kd with
    | cell => cases h
    | _ =>
      rcases List.mem_cons.mp hx with e | hx
      · subst e; intro z; cases z
      · exact noCell_mem (ns := r) h x hx
theorem isLoc_eq {x : Option NameKind} (h : isLoc x = true) : x = some .local := by
  unfold isLoc at h
  split at h
  · rfl
  · cases h
theorem locOk_mem {ns : List (Str × NameKind)} : ∀ {l : List (Str × NameKind)}, locOk ns l = true → ∀ x ∈ l, x.2 = .local → ns.lookup x.1 = some .local
  | [], _, _, h => nomatch h
  | (y, kd) :: r, h, x, hx => by
    rw [locOk_2] at h
    rcases List.mem_cons.mp hx with e | hx'
    · subst e
      intro z
      dsimp only at z
      subst z
      dsimp only at h
      cases q : isLoc (lk ns y) with
      | true => rw [← lk_eq]; exact isLoc_eq q
      | false => rw [q] at h; cases h
    · cases kd with
      | «local» =>
        dsimp only at h
        cases q : isLoc (lk ns y) with
        | true => rw [q] at h; exact locOk_mem h x hx'
        | false => rw [q] at h; cases h
      | _ => exact locOk_mem (l := r) h x hx'
theorem isFnK_eq {k : ScopeKind} (h : isFnK k = true) : k = .function := by
  unfold isFnK at h
  split at h
  · rfl
  · cases h
theorem genOf_eq {gens : List Comprehension} {x : Str} {it : Expr} {ifs : List Expr} (h : genOf gens = some (x, it, ifs)) : ∃ px, gens = [⟨.Name x px, it, ifs, 0⟩] := by
  cases gens with
  | nil => cases h
  | cons g r => cases r with
    | cons _ _ => cases h
    | nil =>
      obtain ⟨t, i, fs, as⟩ := g
      cases t with
      | Name y px =>
        obtain ⟨ha, h⟩ := cond_some (show cond (decide (as = 0)) (some (y, i, fs)) none = some (x, it, ifs) from h)
        cases h
        obtain rfl := of_decide_eq_true ha
        exact ⟨_, rfl⟩
      | _ => cases h
section
variable {prog : Program} {w : World} {sc : List Int} {h₀ : Heap} {T : ITab} {K : Frag} {p : Program} {loose : List Str} {mean : ExcName → Option Value} {mg mb : Str → Option Value}
variable {A : Around} {cn : Str} {a : Addr} {ccd : Value} {cl : List (Str × Addr)} {outer : List Env} {fs : Fs} {L : Addr} {m : Str → Option Value} {fe : FE} {lc : Lc} {σ : AS} {ρ : Nat → Addr} {news : List (Addr × Obj)} {s : Shared} {E : Value → Shared → Prop}
theorem compG_sound (G : Glb T K p loose mean mg mb h₀) {r : Rc} {n : Nat} (H : Snd prog w sc h₀ r n) {scope : Scope} {cl' : List (Str × Nat)} {cs : List (Str × Addr)} {x : Str} {px : Pos} {elt iter : Expr} {ifs : List Expr} {key : Nat} {pos : Pos} {v : AV} {u : Value} {y : Option AV × AS} {Q : Value → Shared → Prop}
    (h : compG T r fe scope cl' x elt ifs key v σ = some y) (ax : AX A (envX cn fe.sc L a ccd cl) outer L fs n) (S : St prog w sc h₀ fs L m σ ρ news s) (hv : VR σ.n ρ v u) (hcl : CLR σ.n ρ cl' cs) (hkd : scope.kind = .function) (hnc : noCell scope.names = true) (hx : lk scope.names x = some .local)
    (k : Kc prog w sc h₀ fs L m VR σ ρ news s y Q E) :
    wpAny (model prog w) A (pyIter u) (fun it s₂ => wpAny (model prog w) A (newList []) (fun acc s₃ =>
      wpAny (model prog w) A (newFunctionEnv scope (envX cn fe.sc L a ccd cl).globals cs [] (envX cn fe.sc L a ccd cl).qual none .none (some (envX cn fe.sc L a ccd cl))) (fun cenv s₄ =>
        codeAny (model prog w) A (.compStart (.ListComp elt [⟨.Name x px, iter, ifs, 0⟩] scope pos) 0 it acc { cenv with scope := relabel scope (envX cn fe.sc L a ccd cl) }) (compPost (model prog w) A E none Q acc cenv.locals) s₄) E s₃) E s₂) E s := by
  unfold compG at h
  obtain ⟨hil, h⟩ := cond_some h
  rw [wn_eq] at h
  split at h
  · rename_i τ hi
    refine iter_sound hi S hv fun ρ₂ news₂ s₂ S₂ N₂ M₂ hl => ?_
    have hτ : ∃ l, τ = σ.new (.itL l 0) := by
      unfold isListV at hil
      split at hil
      · rename_i i
        split at hil
        · rename_i xs hxs
          unfold iterOf at hi
          dsimp only at hi
          rw [listAt_get hxs] at hi
          cases hi
          exact ⟨i, rfl⟩
        · cases hil
      · cases hil
    obtain ⟨l, rfl⟩ := hτ
    refine newList_K S₂.fr S₂.nw (fun ac h' F' N' lt => ?_) (by rw [sizeLine_eq]; decide)
    obtain ⟨S₃, N₃⟩ := S₂.alloc (ao := .list []) (s' := { s₂ with heap := h' }) F' N' lt ⟨_, _, rfl, trivial⟩ rfl
    refine wpAny_newFunctionEnv (noCell_mem hnc) (fun y hy => by cases hy) (fun h₁ ns hsb => ?_) hkd
    obtain ⟨S₄, N₄⟩ := S₃.alloc (ao := .ns []) (s' := { s₂ with heap := h'.push { cls := .type "dict", data := .dict #[] } }) (S₃.fr.push _) (News.push S₃.fr S₃.nw _) (News.low S₃.nw)
      ⟨_, ⟨_, _, rfl, fun _ he => by simp at he, fun _ => rfl⟩, fun y a' e => (nomatch e)⟩ rfl
    have gC : (((σ.new (.itL l 0)).new (.list [])).new (.ns [])).get (σ.n + 2) = some (.ns []) := by
      rw [get_new, if_pos (show σ.n + 2 = ((σ.new (.itL l 0)).new (.list [])).n from rfl)]
    have rC : upd (upd ρ₂ ((σ.new (.itL l 0)).n) ac) (((σ.new (.itL l 0)).new (.list [])).n) h'.objs.size (σ.n + 2) = h'.objs.size := upd_self ..
    obtain ⟨oC, esC, epC, q1, q2, q3, q4⟩ := ns
    obtain ⟨news₅, S₅, N₅⟩ := S₄.change (ao := .ns []) (s' := { s₂ with heap := h₁ }) gC (fun b o hb hne => (hsb.2 b (by rw [rC] at hne; exact hne)).trans hb) (by rw [rC]; exact q1)
      ⟨_, ⟨esC, epC, q2, q3, q4⟩, fun y a' e => (nomatch e)⟩ rfl
    have hle : (((σ.new (.itL l 0)).new (.list [])).new (.ns [])).n = σ.n + 3 := rfl
    obtain ⟨S₆, N₆⟩ := S₅.sub (τ := ((σ.new (.itL l 0)).new (.list [])).new (.ns [])) (Nat.le_refl _) (fun i a hg => by
      rw [get_put _ _ _ _ (show σ.n + 2 < ((σ.new (.itL l 0)).new (.list [])).n + 1 from Nat.lt_succ_self _)]
      split
      · rename_i e; subst e; rw [gC] at hg; exact hg
      · exact hg)
    have NN := (((N₂.trans N₃).trans N₄).trans N₅).trans N₆
    have gj : (((σ.new (.itL l 0)).new (.list [])).new (.ns [])).get σ.n = some (.itL l 0) := by
      rw [get_new, if_neg (show ¬ σ.n = ((σ.new (.itL l 0)).new (.list [])).n by show ¬ σ.n = σ.n + 2; omega), get_new, if_neg (show ¬ σ.n = (σ.new (.itL l 0)).n by show ¬ σ.n = σ.n + 1; omega), get_new, if_pos rfl]
    obtain ⟨oj, j1, j2, j3, j4, j5⟩ := S₆.get gj
    have r1 : upd (upd ρ₂ ((σ.new (.itL l 0)).n) ac) (((σ.new (.itL l 0)).new (.list [])).n) h'.objs.size (σ.n + 1) = ac := by
      exact (Mine.upd_ext _ (σ.n + 2) _ _ (show σ.n + 1 < σ.n + 2 from Nat.lt_succ_self _)).trans (upd_self ..)
    have r0 : upd (upd ρ₂ ((σ.new (.itL l 0)).n) ac) (((σ.new (.itL l 0)).new (.list [])).n) h'.objs.size σ.n = ρ₂ σ.n := by
      exact (Mine.upd_ext _ (σ.n + 2) _ _ (show σ.n < σ.n + 2 by omega)).trans (Mine.upd_ext _ (σ.n + 1) _ _ (show σ.n < σ.n + 1 by omega))
    split at h
    · rename_i σ' hN
      split at h
      · rename_i lcC hgC
        split at h
        · rename_i xs hxs
          cases h
          have loop : codeAny (model prog w) A (.compLoop (.ListComp elt [⟨.Name x px, iter, ifs, 0⟩] scope pos) 0 (.ref ((upd (upd ρ₂ ((σ.new (.itL l 0)).n) ac) (((σ.new (.itL l 0)).new (.list [])).n) h'.objs.size) σ.n)) (.ref ((upd (upd ρ₂ ((σ.new (.itL l 0)).n) ac) (((σ.new (.itL l 0)).new (.list [])).n) h'.objs.size) (σ.n + 1))) (compEnvC scope cs h'.objs.size (envX cn fe.sc L a ccd cl))) (compPost (model prog w) A E none Q (.ref ((upd (upd ρ₂ ((σ.new (.itL l 0)).n) ac) (((σ.new (.itL l 0)).new (.list [])).n) h'.objs.size) (σ.n + 1))) h'.objs.size) { s₂ with heap := h₁ } := by
            refine comp_loop (σ₀ := σ) (ρ₀ := ρ) (news₀ := news) (s₀ := s) G H (B := ⟨scope.names, cl', σ.n + 2⟩) ax hx hN S₆ NN (M₂.trans ⟨rfl, rfl, rfl⟩) ⟨rfl, hkd, hcl.mono NN.le NN.ext, by rw [hle]; exact Nat.lt_succ_self _, rC⟩ ⟨by rw [hle]; omega, Nat.le_refl _⟩ (by rw [hle]; omega) ?_
            intro ρ' news' s' S' N' M' hac hC
            obtain ⟨m0, hns, _⟩ := ns_at S' hgC
            rw [show ρ' (σ.n + 2) = h'.objs.size from hC] at hns
            refine ⟨m0, hns, fun h2 hs2 => ?_⟩
            obtain ⟨news7, S7, N7⟩ := S'.drop (h' := h2) N' ⟨_, hgC⟩ (by omega) (fun b o hne hb => (hs2.2 b (by rw [show ρ' (σ.n + 2) = h'.objs.size from hC] at hne; exact hne)).trans hb)
            refine k.done' S7 N7 ⟨M'.1, M'.2.1, M'.2.2⟩ ⟨?_, ?_⟩
            · exact show σ.n + 1 < σ'.n from get_lt (listAt_get hxs)
            · rw [show ρ' (σ.n + 1) = _ from hac]
          rw [r0, r1] at loop
          refine codeAny_compStart_list loop ?_
          exact wpAny_pyIter_listiter (by rw [← r0]; exact ⟨_, j2, j4, j5⟩) loop
        · cases h
      · cases h
    · cases h
  · cases h
theorem ev_comp (G : Glb T K p loose mean mg mb h₀) {r : Rc} {n : Nat} (H : Snd prog w sc h₀ r n) {elt : Expr} {gens : List Comprehension} {scope : Scope} {pos : Pos} {y : Option AV × AS} {Q : Value → Shared → Prop}
    (h : evComp T r fe elt gens scope pos lc σ = some y) (ax : AX A (envX cn fe.sc L a ccd cl) outer L fs n) (C : Cf prog w sc h₀ fs L m fe cl lc σ ρ news s)
    (k : Kc prog w sc h₀ fs L m VR σ ρ news s y Q E) : wpAny (model prog w) A (eval (.ListComp elt gens scope pos) (envX cn fe.sc L a ccd cl)) Q E s := by
  unfold evComp at h
  split at h
  · rename_i x it ifs hg
    obtain ⟨px, rfl⟩ := genOf_eq hg
    obtain ⟨c, h⟩ := cond_some h
    rw [Bool.and_eq_true, Bool.and_eq_true, Bool.and_eq_true, Bool.and_eq_true] at c
    obtain ⟨⟨⟨⟨c1, c2⟩, c3⟩, c4⟩, c5⟩ := c
    split at h
    · rename_i cl' hcl
      obtain ⟨cs, hcs, hcr⟩ := clSel_clF C.cl hcl (acc' := []) trivial
      rw [eval_ListComp]
      have hset : isSet it = false := by simpa using c1
      obtain ⟨z, hz, _⟩ := bd_some h
      refine wpAny_comprehension_free rfl (fun x => by cases it <;> first | rfl | cases hset) (clF_eq hcs) (isFnK_eq c2) (locOk_mem c4) ?_
      refine H.ev _ _ _ _ _ hz _ _ _ _ _ _ _ _ _ _ _ _ _ _ ax C (Kc.bind h hz k fun v hf ρ₁ news₁ s₁ S N M b hb k' => ?_)
      exact compG_sound G H hf ax S hb (hcr.mono N.le N.ext) (isFnK_eq c2) c3 (isLoc_eq c5) k'
    · cases h
  · cases h
end
end Mine
end

section
open PySem PySem.W PyProof.Rows PySem.Calls
set_option Elab.async false
set_option maxRecDepth 100000
set_option linter.unusedVariables false
namespace Mine
section
variable {prog : Program} {w : World} {sc : List Int} {h₀ : Heap} {T : ITab} {K : Frag} {p : Program} {loose : List Str} {mean : ExcName → Option Value} {mg mb : Str → Option Value}
variable {A : Around} {cn : Str} {a : Addr} {ccd : Value} {cl : List (Str × Addr)} {outer : List Env} {fs : Fs} {L : Addr} {m : Str → Option Value} {fe : FE} {lc : Lc} {σ : AS} {ρ : Nat → Addr} {news : List (Addr × Obj)} {s : Shared} {E : Value → Shared → Prop}
theorem FR.miss {n : Nat} {x : Str} : ∀ {fs : Lc} {es : List DictEntry}, FR n ρ fs es → lk fs x = none → getL x es = some none
  | [], [], _, _ => rfl
  | (y, b) :: fs, e :: es, h, q => by
    obtain ⟨⟨t, h1⟩, h2, h3⟩ := h
    simp only [lk_1, lk_2] at q
    have hk : e.key.isStr x = sEq y x := by rw [h1, sEq_beq]; rfl
    cases c : sEq y x with
    | true => rw [c] at q; cases q
    | false =>
      rw [c] at q hk
      have ih := FR.miss h3 q
      unfold getL at ih ⊢
      rw [List.find?_cons, hk]
      dsimp only
      have hr : e.refKey = false := by unfold DictEntry.refKey; rw [h1]
      rw [List.any_cons, hr, Bool.false_or]
      exact ih
  | [], _ :: _, h, _ => h.elim
  | _ :: _, [], h, _ => h.elim
theorem LR.revA {n : Nat} : ∀ {xs : List AV} {ys : List Value} {xs' : List AV} {ys' : List Value}, LR n ρ xs ys → LR n ρ xs' ys' → LR n ρ (xs.reverseAux xs') (ys.reverseAux ys')
  | [], [], _, _, _, h => h
  | x :: xs, y :: ys, xs', ys', h, h' => LR.revA (xs' := x :: xs') (ys' := y :: ys') h.2 ⟨h.1, h'⟩
  | [], _ :: _, _, _, h, _ => h.elim
  | _ :: _, [], _, _, h, _ => h.elim
theorem LR.app1 {n : Nat} {v : AV} {u : Value} (hv : VR n ρ v u) : ∀ {xs : List AV} {ys : List Value}, LR n ρ xs ys → LR n ρ (xs ++ [v]) (ys ++ [u])
  | [], [], _ => ⟨hv, trivial⟩
  | _ :: _, _ :: _, h => ⟨h.1, LR.app1 hv h.2⟩
  | [], _ :: _, h => h.elim
  | _ :: _, [], h => h.elim
theorem szl {its : Array Value} {k : Nat} (h : its.toList.length = k) (h2 : k ≤ 900) : its.size ≤ sizeLine := by
  rw [sizeLine_eq]
  have e : its.size = its.toList.length := Array.length_toList.symm
  omega
theorem backTo_len {env : Env} {pos : Pos} : ∀ {es : List Expr}, plainEs es = true → (backTo pos (starEach es env)).all (fun x => !x.1) = true
  | [], _ => rfl
  | e :: es, h => by
    unfold plainEs at h
    rw [List.all_cons, Bool.and_eq_true] at h
    have h1 : isStar e = false := by simpa using h.1
    rw [star_eq h1]
    have := backTo_len (env := env) (pos := pos) (es := es) h.2
    simpa [backTo] using this
theorem mcall_eq {env : Env} {o : Expr} {nm : Str} {ap pos : Pos} {es : List Expr} (hb : basOk o = true) (hp : plainEs es = true) (hl : es.length < 30) (he : ap.endLine = pos.line) :
    eval (.Call (.Attribute o nm ap) es [] pos) env = (do
      let ov ← eval o env
      standAt ap.atName
      let (f, first) ← holding [ov] (getMethod ov nm (do return (← importBound o env).getD true))
      callWith pos f first (backTo pos (starEach es env)) []) := by
  have e0 : eval (.Call (.Attribute o nm ap) es [] pos) env = (do
    let ov ← attributeBase o nm env (eval o env)
    standAt ap.atName
    methodCall o nm ap pos env ov (es.length + 0) (backTo pos (starEach es env)) []) := rfl
  rw [e0, base_eq hb]
  have hf : methodCallForm (es.length + 0) (backTo pos (starEach es env)) [] = true := by
    unfold methodCallForm
    rw [backTo_len hp]
    simp
    omega
  unfold methodCall
  rw [hf]
  have hq : methodCallPos true o env ap pos = pure pos := by
    unfold methodCallPos
    rw [he]
    simp
  rw [hq]
  rfl
theorem callM_sound (G : Glb T K p loose mean mg mb h₀) {r : Rc} {n : Nat} (H : Snd prog w sc h₀ r n) {pos : Pos} {es : List Expr} {f : AV} {fv : Value} {fi : List AV} {first : List Value} {x : Option AV × AS} {Q : Value → Shared → Prop}
    (h : cond (plainEs es && !es.isEmpty || !fi.isEmpty && plainEs es) (bd (evs r fe es lc σ) fun vs σ => r.ca f (fi ++ vs) σ) none = some x) (ax : AX A (envX cn fe.sc L a ccd cl) outer L fs n) (C : Cf prog w sc h₀ fs L m fe cl lc σ ρ news s)
    (hf : VR σ.n ρ f fv) (hfi : LR σ.n ρ fi first) (hk : (∃ g, fv = .ref g ∧ keepIn K (.ref g) = true) ∨ (first = [] ∧ ∃ b, fv = .builtin b))
    (k : Kc prog w sc h₀ fs L m VR σ ρ news s x Q E) : wpAny (model prog w) A (callWith pos fv first (backTo pos (starEach es (envX cn fe.sc L a ccd cl))) []) Q E s := by
  obtain ⟨hst, h⟩ := cond_some h
  have hpl : plainEs es = true := by
    rw [Bool.or_eq_true, Bool.and_eq_true, Bool.and_eq_true] at hst
    exact hst.elim (·.1) (·.2)
  obtain ⟨z, hz, _⟩ := bd_some h
  have app : ∀ {n : Nat} {ρ : Nat → Addr} {xs : List AV} {us : List Value} {ys : List AV} {ws : List Value}, LR n ρ xs us → LR n ρ ys ws → LR n ρ (xs ++ ys) (us ++ ws) := by
    intro n ρ xs
    induction xs with
    | nil => intro us ys ws h1 h2; cases us with
      | nil => exact h2
      | cons _ _ => exact h1.elim
    | cons x xs ih => intro us ys ws h1 h2; cases us with
      | nil => exact h1.elim
      | cons u us => exact ⟨h1.1, ih h1.2 h2⟩
  have main : wpAny (model prog w) A (spliced (backTo pos (starEach es (envX cn fe.sc L a ccd cl)))) (fun vs s₁ => K.In s₁.heap ∧ wpAny (model prog w) A (PySem.call fv (first ++ vs)) Q E s₁) E s := by
    refine evs_sound H.ev hz ax C (Kc.bind h hz k fun vs hg ρ₁ news₁ s₁ S N M bs hbs k' => ⟨G.X.keeps S.fr.keep, ?_⟩)
    exact H.ca f (fi ++ vs) z.2 x hg A _ outer fs L m ρ₁ news₁ s₁ fv _ Q E ax S (N.vr hf) (app (N.lr hfi) hbs) k'
  cases es with
  | nil =>
    rcases hk with ⟨g, rfl, hk⟩ | ⟨rfl, b, rfl⟩
    · refine callWith_K0 (G.X.keeps C.st.fr.keep) hk ?_
      have h : r.ca f (fi ++ []) σ = some x := h
      rw [List.append_nil] at h
      exact H.ca f fi σ x h A _ outer fs L m ρ news s (.ref g) _ Q E ax C.st hf (by rw [List.append_nil]; exact hfi) k
    · cases fi with
      | nil => cases hst
      | cons _ _ => exact hfi.elim
  | cons e es =>
    unfold plainEs at hpl
    rw [List.all_cons, Bool.and_eq_true] at hpl
    have h1 : isStar e = false := by simpa using hpl.1
    rcases hk with ⟨g, rfl, hk⟩ | ⟨rfl, b, rfl⟩
    · exact callWith_K G.X hk main (star_eq h1) (stars_plain hpl.2)
    · exact PyProof.Rows.callWith_builtin1 (wpAny_mono main (fun _ _ x => x.2) fun _ _ x => x) (star_eq h1) (stars_plain hpl.2)
theorem arg_sound {r : Rc} {n : Nat} (H : Snd prog w sc h₀ r n) {pos : Pos} {e : Expr} {i : Nat} {id : String} {x : Option AV × AS} {f : AV → AS → Rs AV} {Q : Value → Shared → Prop}
    (h : bd (r.ev fe e lc σ) (fun u σ => f u σ) = some x) (hst : isStar e = false) (ax : AX A (envX cn fe.sc L a ccd cl) outer L fs n) (C : Cf prog w sc h₀ fs L m fe cl lc σ ρ news s) (hin : i < σ.n)
    (k : Kc prog w sc h₀ fs L m VR σ ρ news s x Q E)
    (hf : ∀ (u : AV) (σ₁ : AS) (uv : Value) (ρ₁ : Nat → Addr) (news₁ : List (Addr × Obj)) (s₁ : Shared), f u σ₁ = some x → St prog w sc h₀ fs L m σ₁ ρ₁ news₁ s₁ → VR σ₁.n ρ₁ u uv → Kc prog w sc h₀ fs L m VR σ₁ ρ₁ news₁ s₁ x Q E → wpAny (model prog w) A (PySem.call (.builtin id) [.ref (ρ₁ i), uv]) Q E s₁) :
    wpAny (model prog w) A (spliced (backTo pos (starEach [e] (envX cn fe.sc L a ccd cl)))) (fun vs s₁ => wpAny (model prog w) A (PySem.call (.builtin id) (.ref (ρ i) :: vs)) Q E s₁) E s := by
  obtain ⟨z, hz, _⟩ := bd_some h
  refine wpAny_items_cons (H.ev fe e lc σ z hz A cn a ccd cl outer fs L m ρ news s _ _ ax C (Kc.bind h hz k fun u hg ρ₁ news₁ s₁ S N M b hb k' => wpAny_items_nil ?_)) (star_eq hst)
  rw [← N.ext i hin]
  exact hf u z.2 b ρ₁ news₁ s₁ hg S hb k'
theorem appd_sound {i : Nat} {u : AV} {uv : Value} {x : Option AV × AS} {Q : Value → Shared → Prop} (hg : appd i u σ = some x) (S : St prog w sc h₀ fs L m σ ρ news s) (hb : VR σ.n ρ u uv) (k : Kc prog w sc h₀ fs L m VR σ ρ news s x Q E) :
    wpAny (model prog w) A (PySem.call (.builtin "list.append") [.ref (ρ i), uv]) Q E s := by
  unfold appd at hg
  split at hg
  · rename_i xs hi'
    obtain ⟨hle, hg⟩ := cond_some hg
    cases hg
    obtain ⟨o', p1, p2, its', ep', p3, p4⟩ := S.get hi'
    subst p3
    obtain ⟨g, U, Ch⟩ := updF_ex p1 S.sy.nd
    have hl := p4.len
    have hl2 := Nat.le_of_ble_eq_true hle
    refine append_K S.fr S.nw (upd_of_F _ U) (fun h' F' N' => ?_) (szl hl (by omega))
    obtain ⟨S', X'⟩ := S.put ⟨_, hi'⟩ (Ch _) F' N' (ao := .list (xs ++ [u])) (s' := { s with heap := h' }) ⟨_, _, rfl, by rw [Array.toList_push]; exact LR.app1 hb p4⟩ rfl
    exact k.done' S' X' ⟨rfl, rfl, rfl⟩ rfl
  · cases hg
theorem meth_sound (G : Glb T K p loose mean mg mb h₀) {r : Rc} {n : Nat} (H : Snd prog w sc h₀ r n) {pos : Pos} {es : List Expr} {v : AV} {vv : Value} {nm : Str} {pl : Sem Bool} {x : Option AV × AS} {Q : Value → Shared → Prop}
    (h : callM r fe es lc σ (meth T σ v nm) = some x) (ax : AX A (envX cn fe.sc L a ccd cl) outer L fs n) (C : Cf prog w sc h₀ fs L m fe cl lc σ ρ news s) (hv : VR σ.n ρ v vv)
    (k : Kc prog w sc h₀ fs L m VR σ ρ news s x Q E) :
    wpAny (model prog w) A (getMethod vv nm pl) (fun fx s₂ => wpAny (model prog w) A (callWith pos fx.1 fx.2 (backTo pos (starEach es (envX cn fe.sc L a ccd cl))) []) Q E s₂) E s := by
  cases hm : meth T σ v nm with
  | none => rw [hm] at h; cases h
  | some y =>
    rw [hm] at h
    unfold meth at hm
    split at hm
    · rename_i i
      obtain ⟨hin, rfl⟩ := hv
      split at hm
      · rename_i C' d hi
        split at hm
        · rename_i f ht
          split at hm
          · rename_i F hd
            split at hm
            · rename_i hn
              cases hm
              obtain ⟨es', k', I, fr, mem⟩ := instAt_of C.st hi (dictAt_get hd)
              obtain ⟨r1, r2, r3, r4⟩ := G.mth C' nm f ht
              refine method_inst C.st.fr G.X I r1 r2 r3 (FR.miss fr hn) ?_
              exact callM_sound G H h ax C rfl ⟨⟨hin, rfl⟩, trivial⟩ (.inl ⟨_, rfl, r4⟩) k
            · cases hm
          · cases hm
        · cases hm
      · rename_i xs hi
        obtain ⟨o, m1, m2, its, ep, m3, m4⟩ := C.st.get hi
        subst m3
        cases q1 : sEq nm (Str.ofString "append") with
        | true =>
          rw [q1] at hm; cases hm
          have hnm : nm = Str.ofString "append" := sEq_iff.mp q1
          subst hnm
          refine getMethod_append_N C.st.nw m1 ?_ rfl rfl
          unfold callM at h
          dsimp only at h ⊢
          split at h
          · rename_i e he
            rw [one1_eq he]
            obtain ⟨hst, h⟩ := cond_none h
            exact callWith_method1 (arg_sound H h hst ax C hin k fun u σ₁ uv ρ₁ news₁ s₁ hf S hb k' => appd_sound hf S hb k') (star_eq hst) rfl
          · cases h
        | false =>
          rw [q1, cond_false] at hm
          cases q2 : sEq nm (Str.ofString "index") with
          | true =>
            rw [q2] at hm; cases hm
            have hnm : nm = Str.ofString "index" := sEq_iff.mp q2
            subst hnm
            refine kf_method C.st.nw m1 PySem.F.slot_list_index PySem.F.type_list_index ?_
            unfold callM at h
            dsimp only at h ⊢
            split at h
            · rename_i e he
              rw [one1_eq he]
              obtain ⟨hst, h⟩ := cond_none h
              exact callWith_method1 (arg_sound H h hst ax C hin k fun u σ₁ uv ρ₁ news₁ s₁ hf S hb k' => idxd_sound hf S hb (by have := ax.un; omega) k') (star_eq hst) rfl
            · cases h
          | false =>
            rw [q2, cond_false] at hm
            obtain ⟨q3, hm⟩ := cond_some hm
            cases hm
            have hnm : nm = Str.ofString "extend" := sEq_iff.mp q3
            subst hnm
            refine kf_method C.st.nw m1 PySem.F.slot_list_extend PySem.F.type_list_extend ?_
            unfold callM at h
            dsimp only at h ⊢
            split at h
            · rename_i e he
              rw [one1_eq he]
              obtain ⟨hst, h⟩ := cond_none h
              exact callWith_method1 (arg_sound H h hst ax C hin k fun u σ₁ uv ρ₁ news₁ s₁ hf S hb k' => extd_sound hf S hb k') (star_eq hst) rfl
            · cases h
      · cases hm
    · rename_i C'
      rw [show vv = _ from hv]
      split at hm
      · rename_i f hf
        cases hm
        obtain ⟨r1, r2, mc, r3, r4, r5⟩ := G.clm C' nm f hf
        refine method_of_cls C.st.fr G.X r2 (cls_val C.st.fr G.X r3 r4 r5 rfl ?_)
        exact callM_sound G H h ax ⟨C.st.of_heap rfl, C.lc, C.cl⟩ rfl trivial (.inl ⟨_, rfl, r1⟩) (k.move .refl (sm_toks s _))
      · cases hm
    · split at hm
      · obtain ⟨hq, hm⟩ := cond_some hm
        cases hm
        have hnm : nm = Str.ofString "__init__" := sEq_iff.mp hq
        subst hnm
        rw [show vv = _ from hv]
        refine method_type C.st.fr G.X (by kernel_rfl) (by kernel_rfl) G.tyx rfl ?_
        exact callM_sound G H h ax ⟨C.st.of_heap rfl, C.lc, C.cl⟩ rfl trivial (.inr ⟨rfl, _, rfl⟩) (k.move .refl (sm_toks s _))
      · cases hm
    · cases hm
theorem evCmp_sound (G : Glb T K p loose mean mg mb h₀) {r : Rc} {n : Nat} (H : Snd prog w sc h₀ r n) {e1 e2 : Expr} {op : CmpOp} {x : Option Bool × AS} {Q : Bool → Shared → Prop} {Q' : Value → Shared → Prop}
    (h : bd (r.ev fe e1 lc σ) (fun v σ => bd (r.ev fe e2 lc σ) fun u σ => lift σ (cmpOf T σ op v u)) = some x) (ax : AX A (envX cn fe.sc L a ccd cl) outer L fs n) (C : Cf prog w sc h₀ fs L m fe cl lc σ ρ news s)
    (hQ : ∀ t s', Q t s' → Q' (.bool t) s') (k : Kc prog w sc h₀ fs L m BR σ ρ news s x Q E) :
    wpAny (model prog w) A (eval e1 (envX cn fe.sc L a ccd cl)) (fun v s₁ => wpAny (model prog w) A (eval e2 (envX cn fe.sc L a ccd cl)) (fun u s₂ => wpAny (model prog w) A (compareOp op v u) Q' E s₂) E s₁) E s := by
  obtain ⟨z, hz, _⟩ := bd_some h
  refine H.ev _ _ _ _ _ hz _ _ _ _ _ _ _ _ _ _ _ _ _ _ ax C (Kc.bind h hz k fun v hf ρ₁ news₁ s₁ S N M b hb k' => ?_)
  obtain ⟨y, hy, _⟩ := bd_some hf
  refine H.ev _ _ _ _ _ hy _ _ _ _ _ _ _ _ _ _ _ _ _ _ ax (C.next S N) (Kc.bind hf hy k' fun u hg ρ₂ news₂ s₂ S' N' M' b' hb' k'' => ?_)
  obtain ⟨t, ht, rfl⟩ := lift_some hg
  exact cmp_sound G ht S' (un_lt ax.un (by decide)) (N'.vr hb) hb' (hQ _ _ (k''.done S' (Sm.rfl _) rfl))
theorem two_eq {α : Type} {l : List α} {a : α × α} (h : two l = some a) : l = [a.1, a.2] := by
  match l, h with
  | [x, y], h => cases h; rfl
theorem ev_name (G : Glb T K p loose mean mg mb h₀) {n : Nat} {x0 : Str} {pos : Pos} {x : Option AV × AS} {Q : Value → Shared → Prop} (h : lift σ (nmOf T fe x0 lc σ) = some x) (ax : AX A (envX cn fe.sc L a ccd cl) outer L fs n) (C : Cf prog w sc h₀ fs L m fe cl lc σ ρ news s)
    (k : Kc prog w sc h₀ fs L m VR σ ρ news s x Q E) : wpAny (model prog w) A (eval (.Name x0 pos) (envX cn fe.sc L a ccd cl)) Q E s := by
  obtain ⟨v, hv, rfl⟩ := lift_some h
  exact name_sound G hv ax C fun u hu => k.done C.st (Sm.rfl s) hu
theorem ev_bool {r : Rc} {n : Nat} (H : Snd prog w sc h₀ r n) {op : BoolOp} {es : List Expr} {pos : Pos} {x : Option AV × AS} {Q : Value → Shared → Prop} (h : evBool r fe op es pos lc σ = some x)
    (ax : AX A (envX cn fe.sc L a ccd cl) outer L fs n) (C : Cf prog w sc h₀ fs L m fe cl lc σ ρ news s) (k : Kc prog w sc h₀ fs L m VR σ ρ news s x Q E) :
    wpAny (model prog w) A (eval (.BoolOp op es pos) (envX cn fe.sc L a ccd cl)) Q E s := by
  unfold evBool at h
  cases es with
  | nil => cases h
  | cons e es => cases es with
    | nil => exact BoolOp_one (H.ev _ _ _ _ _ h _ _ _ _ _ _ _ _ _ _ _ _ _ _ ax C k)
    | cons e2 es => cases op with
      | And =>
        obtain ⟨z, hz, _⟩ := bd_some h
        refine BoolOp_and (H.ev _ _ _ _ _ hz _ _ _ _ _ _ _ _ _ _ _ _ _ _ ax C (Kc.bind h hz k fun v hf ρ₁ news₁ s₁ S N M b hb k' => ?_))
        obtain ⟨q, hq, hq2⟩ := bd_some hf
        obtain ⟨t, ht, rfl⟩ := lift_some hq
        refine truth_sound ht hb ?_
        dsimp only at hq2
        cases t with
        | true => exact H.ev _ _ _ _ _ hq2 _ _ _ _ _ _ _ _ _ _ _ _ _ _ ax (C.next S N) k'
        | false => cases hq2; exact k'.done S (Sm.rfl _) hb
      | Or =>
        obtain ⟨z, hz, _⟩ := bd_some h
        refine BoolOp_or (H.ev _ _ _ _ _ hz _ _ _ _ _ _ _ _ _ _ _ _ _ _ ax C (Kc.bind h hz k fun v hf ρ₁ news₁ s₁ S N M b hb k' => ?_))
        obtain ⟨q, hq, hq2⟩ := bd_some hf
        obtain ⟨t, ht, rfl⟩ := lift_some hq
        refine truth_sound ht hb ?_
        dsimp only at hq2
        cases t with
        | false => exact H.ev _ _ _ _ _ hq2 _ _ _ _ _ _ _ _ _ _ _ _ _ _ ax (C.next S N) k'
        | true => cases hq2; exact k'.done S (Sm.rfl _) hb
theorem ev_un {r : Rc} {n : Nat} (H : Snd prog w sc h₀ r n) {op : UnaryOp} {e : Expr} {pos : Pos} {x : Option AV × AS} {Q : Value → Shared → Prop} (h : evUn r fe op e lc σ = some x)
    (ax : AX A (envX cn fe.sc L a ccd cl) outer L fs n) (C : Cf prog w sc h₀ fs L m fe cl lc σ ρ news s) (k : Kc prog w sc h₀ fs L m VR σ ρ news s x Q E) :
    wpAny (model prog w) A (eval (.UnaryOp op e pos) (envX cn fe.sc L a ccd cl)) Q E s := by
  unfold evUn at h
  split at h
  · obtain ⟨z, hz, _⟩ := bd_some h
    refine UnaryOp_ (H.ev _ _ _ _ _ hz _ _ _ _ _ _ _ _ _ _ _ _ _ _ ax C (Kc.bind h hz k fun v hf ρ₁ news₁ s₁ S N M b hb k' => not_of ?_))
    obtain ⟨q, hq, hq2⟩ := bd_some hf
    obtain ⟨t, ht, rfl⟩ := lift_some hq
    cases hq2
    exact truth_sound ht hb (k'.done S (Sm.rfl _) rfl)
  · obtain ⟨z, hz, _⟩ := bd_some h
    refine UnaryOp_ (H.ev _ _ _ _ _ hz _ _ _ _ _ _ _ _ _ _ _ _ _ _ ax C (Kc.bind h hz k fun v hf ρ₁ news₁ s₁ S N M b hb k' => ?_))
    obtain ⟨u', hu, rfl⟩ := lift_some hf
    unfold negA at hu
    split at hu
    · cases hu
      obtain ⟨t, rfl⟩ := hb
      exact neg_int (k'.done (S.of_heap rfl) (sm_toks s₁ _) ⟨_, rfl⟩)
    · cases hu
  · cases h
theorem ev_dict (G : Glb T K p loose mean mg mb h₀) {r : Rc} {n : Nat} (H : Snd prog w sc h₀ r n) {ks : List (Option Expr)} {es : List Expr} {pos : Pos} {x : Option AV × AS} {Q : Value → Shared → Prop} (h : evDict r fe ks es lc σ = some x)
    (ax : AX A (envX cn fe.sc L a ccd cl) outer L fs n) (C : Cf prog w sc h₀ fs L m fe cl lc σ ρ news s) (k : Kc prog w sc h₀ fs L m VR σ ρ news s x Q E) :
    wpAny (model prog w) A (eval (.Dict ks es pos) (envX cn fe.sc L a ccd cl)) Q E s := by
  unfold evDict at h
  cases ks with
  | nil => cases es with
    | cons _ _ => cases h
    | nil =>
      cases h
      refine newDict_K C.st.fr C.st.nw G.top.nolimit fun d h' o F' N' lt _ hd _ _ _ => ?_
      obtain ⟨S', X'⟩ := C.st.alloc (ao := .dct []) (s' := { s with heap := h' }) F' N' lt ⟨_, hd, trivial⟩ rfl
      exact k.done' S' X' ⟨rfl, rfl, rfl⟩ ⟨Nat.lt_succ_self _, by rw [upd_self]⟩
  | cons kx ks =>
    obtain ⟨hc, h⟩ := cond_some h
    rw [wn_eq] at h
    rw [Bool.and_eq_true, Bool.and_eq_true] at hc
    obtain ⟨⟨hc1, hc2⟩, hc3⟩ := hc
    obtain ⟨z, hz, _⟩ := bd_some h
    refine kdn_str hc1 C.st.fr C.st.nw G.top.nolimit (lits_some hc1) (Nat.eq_of_beq_eq_true hc2) (List.cons_ne_nil _ _) (Nat.le_of_ble_eq_true hc3) fun d h' o F' N' lt _ hd => ?_
    obtain ⟨S', X'⟩ := C.st.alloc (ao := .dct []) (s' := { s with heap := h' }) F' N' lt ⟨_, hd, trivial⟩ rfl
    refine dps_sound H.ev hz ax (C.next S' X') (Kc.bind h hz (k.move X' ⟨rfl, rfl, rfl⟩) fun fs' hf ρ₁ news₁ s₁ S N M bs hbs k' => ?_)
    split at hf
    · rename_i F0 hg
      split at hf
      · have hg := dctAt_get hg
        obtain ⟨hnd, hf⟩ := cond_some hf
        cases hf
        obtain ⟨o', m1, m2, kvs, m3, m4⟩ := S.get hg
        have hkv : kvs = [] := by cases kvs with
          | nil => rfl
          | cons _ _ => exact m4.elim
        subst hkv
        obtain ⟨g, U, Ch⟩ := updF_ex m1 S.sy.nd
        obtain ⟨q1, q2, q3⟩ := hbs.kr
        have hd' : ρ₁ σ.n = d := by rw [N.ext σ.n (Nat.lt_succ_self _), upd_self]
        rw [hd'] at U
        refine kdn_made_str S.fr S.nw U m3 q2 (by rw [q3]; exact ndS_nodup hnd) fun h2 o2 F2 N2 hd2 => ?_
        obtain ⟨S2, X2⟩ := S.put ⟨_, hg⟩ (Ch o2) F2 N2 (ao := .dct fs') (s' := { s₁ with heap := h2, toks := s₁.toks + bs.length }) ⟨_, hd2, q1⟩ rfl
        exact k'.done' S2 X2 ⟨rfl, rfl, rfl⟩ ⟨(get_lt hg : _), by rw [hd']⟩
      · cases hf
    · cases hf
theorem ev_call (G : Glb T K p loose mean mg mb h₀) {r : Rc} {n : Nat} (H : Snd prog w sc h₀ r n) {f : Expr} {es : List Expr} {pos : Pos} {x : Option AV × AS} {Q : Value → Shared → Prop} (h : evCall T r fe f es pos lc σ = some x)
    (ax : AX A (envX cn fe.sc L a ccd cl) outer L fs n) (C : Cf prog w sc h₀ fs L m fe cl lc σ ρ news s) (k : Kc prog w sc h₀ fs L m VR σ ρ news s x Q E) :
    wpAny (model prog w) A (eval (.Call f es [] pos) (envX cn fe.sc L a ccd cl)) Q E s := by
  cases f with
  | Name x0 p0 =>
    have h : bd _ _ = some x := h
    obtain ⟨z, hz, hf⟩ := bd_some h
    obtain ⟨v, hv, rfl⟩ := lift_some hz
    dsimp only at hf
    obtain ⟨hc, hf⟩ := cond_some hf
    refine Call_ (name_sound G hv ax C fun u hu => ?_)
    exact call_args G H hc hf ax C hu k
  | Attribute o0 m0 ap0 =>
    have h : cond (basOk o0 && plainEs es && Nat.blt es.length 30 && Nat.beq ap0.endLine pos.line) _ .none = some x := h
    obtain ⟨hb0, h⟩ := cond_some h
    rw [Bool.and_eq_true, Bool.and_eq_true, Bool.and_eq_true] at hb0
    obtain ⟨⟨⟨hb1, hb2⟩, hb3⟩, hb4⟩ := hb0
    obtain ⟨z, hz, _⟩ := bd_some h
    refine MethodCall_ (he := mcall_eq hb1 hb2 (Nat.le_of_ble_eq_true hb3) (Nat.eq_of_beq_eq_true hb4)) (H.ev _ _ _ _ _ hz _ _ _ _ _ _ _ _ _ _ _ _ _ _ ax C (Kc.bind h hz k fun v hf ρ₁ news₁ s₁ S N M b hb k' => ?_))
    exact meth_sound G H hf ax (C.next S N) hb k'
  | _ => cases h
theorem sliceOf_sound {e : Expr} {sl : Expr} {v kv : AV} {vv uv : Value} {x : Option AV × AS} {Q : Value → Shared → Prop} (h : sliceOf σ v kv = some x) (hn : isNmE e = true) (hs : ∀ o i, subscripted sl false o i = operate [i, o] (getItem o i))
    (S : St prog w sc h₀ fs L m σ ρ news s) (hv : VR σ.n ρ v vv) (hk : VR σ.n ρ kv uv) (k : Kc prog w sc h₀ fs L m VR σ ρ news s x Q E) :
    wpAny (model prog w) A (subscriptTail e sl vv (.ref s.heap.objs.size)) Q E { s with heap := s.heap.push { cls := .type "slice", data := .fields #[.none, uv, .none] } } := by
  have ht : ∀ o r, letTemporaryGo e o r = pure () := fun o r => by
    cases e <;> first | rfl | cases hn
  cases kv with
  | int z => cases z with
    | ofNat mm =>
      obtain ⟨t, rfl⟩ := hk
      cases v with
      | id i0 =>
        obtain ⟨_, rfl⟩ := hv
        have h : (match σ.get i0 with | some o => slO mm σ o | .none => .none) = some x := h
        cases hg : σ.get i0 with
        | none => rw [hg] at h; cases h
        | some ob =>
        rw [hg] at h
        cases ob with
        | list xs =>
          obtain ⟨hle, h⟩ := cond_some (show cond (Nat.ble mm 900 && Nat.ble xs.length 900) (mk1 (.list (tk mm xs)) σ) .none = some x from h)
          cases h
          rw [Bool.and_eq_true] at hle
          have h2 := Nat.le_of_ble_eq_true hle.2
          obtain ⟨its, I, R⟩ := list_at S hg
          have hl := R.len
          have hsz : its.size = xs.length := by rw [← hl, Array.length_toList]
          refine kms_slice_lit S.fr S.nw I .none (.int _ _) (zs := its.toList.take mm) ?_ (fun D h' F' N' lt => ?_) (hs _ _) (ht _) (by rw [sizeLine_eq]; omega)
          · unfold kms_pick kms_lo kms_hi
            dsimp only
            rw [if_neg (by show ¬ ((mm : Nat) : Int) < 0; omega), List.drop_zero, Nat.sub_zero, show (Int.ofNat mm).toNat = mm from rfl]
            by_cases q : mm ≤ its.toList.length
            · rw [Nat.min_eq_left q]
            · rw [Nat.min_eq_right (by omega), List.take_of_length_le (Nat.le_refl _), List.take_of_length_le (by omega)]
          · obtain ⟨S', X'⟩ := S.alloc (ao := .list (tk mm xs)) (s' := { s with heap := h' }) F' N' lt ⟨_, _, rfl, by rw [tk_take]; exact LR.mono (Nat.le_succ _) (Mine.upd_ext _ _ _) (R.take mm)⟩ rfl
            exact k.done' S' X' ⟨rfl, rfl, rfl⟩ ⟨Nat.lt_succ_self _, by rw [upd_self]⟩
        | scr =>
          obtain ⟨hm, h⟩ := cond_some (show cond (Nat.beq mm 30) (mk1 .opq σ) .none = some x from h)
          cases h
          have hm := Nat.eq_of_beq_eq_true hm
          subst hm
          obtain ⟨o, m1, m2, its, ep, ns, m3, m4, m5, m6⟩ := S.get hg
          subst m3
          obtain ⟨li, rfl⟩ : ∃ li : List Value, its = li.toArray := ⟨its.toList, by rw [Array.toArray_toList]⟩
          have hup : IntsAre (slicePick li.toArray none (some (Int.ofNat 30)) none).toList (ns.take 30) := kmk_upto m4 (by decide)
          have hlen : li.length = ns.length := m4.length
          refine kmk_slice_ints (c := (ns.take 30).length) S.fr S.nw ⟨_, m2, rfl, _, rfl⟩ .none (.int _ _) m4 hup rfl (fun D ws h' F' N' lt hi _ _ => ?_) (hs _ _) (ht _) (by rw [List.size_toArray, sizeLine_eq]; omega)
          obtain ⟨S', X'⟩ := S.alloc (ao := .opq) (s' := { s with heap := h' }) F' N' lt ⟨_, _, rfl, by rw [m6]; exact hi⟩ rfl
          exact k.done' S' X' ⟨rfl, rfl, rfl⟩ ⟨Nat.lt_succ_self _, by rw [upd_self]⟩
        | _ => cases h
      | _ => cases h
    | negSucc _ => cases h
  | _ => cases h
theorem ev_slice (G : Glb T K p loose mean mg mb h₀) {r : Rc} {n : Nat} (H : Snd prog w sc h₀ r n) {e i : Expr} {pos : Pos} {x : Option AV × AS} {Q : Value → Shared → Prop} (h : evSl r fe e i lc σ = some x)
    (ax : AX A (envX cn fe.sc L a ccd cl) outer L fs n) (C : Cf prog w sc h₀ fs L m fe cl lc σ ρ news s) (k : Kc prog w sc h₀ fs L m VR σ ρ news s x Q E) :
    wpAny (model prog w) A (eval (.Subscript e i pos) (envX cn fe.sc L a ccd cl)) Q E s := by
  cases i with
  | Slice lo hi st _ => cases lo with
    | none => cases hi with
      | some u => cases st with
        | none =>
          obtain ⟨hn, h⟩ := cond_some (show cond (isNmE e) (bd (r.ev fe e lc σ) fun v σ => bd (r.ev fe u lc σ) fun k σ => sliceOf σ v k) .none = some x from h)
          obtain ⟨z, hz, _⟩ := bd_some h
          refine Subscript_ (H.ev _ _ _ _ _ hz _ _ _ _ _ _ _ _ _ _ _ _ _ _ ax C (Kc.bind h hz k fun v hf ρ₁ news₁ s₁ S N M b hb k' => ?_))
          obtain ⟨y, hy, _⟩ := bd_some hf
          refine wpAny_Slice ?_
          rw [evalPart_none]
          refine wpAny_pure ?_
          rw [evalPart_some]
          refine H.ev _ _ _ _ _ hy _ _ _ _ _ _ _ _ _ _ _ _ _ _ ax (C.next S N) (Kc.bind hf hy k' fun kv hg ρ₂ news₂ s₂ S' N' M' b' hb' k'' => ?_)
          refine wpAny_pure ?_
          exact sliceOf_sound hg hn (fun _ _ => by with_unfolding_all rfl) S' (N'.vr hb) hb' k''
        | some _ => cases h
      | none => cases h
    | some _ => cases h
  | _ => cases h
theorem ev1_sound (G : Glb T K p loose mean mg mb h₀) {r : Rc} {n : Nat} (H : Snd prog w sc h₀ r n) : SEv prog w sc h₀ (stp T r) (n + 1) := by
  intro fe e lc σ x h A cn a ccd cl outer fs L m ρ news s Q E ax' C k
  have ax := ax'.le (Nat.le_succ n)
  have h : ev1 T r fe e lc σ = some x := h
  cases e with
  | Constant c kd0 p0 =>
    have h : lift σ (cAV c) = some x := h
    obtain ⟨v, hv, rfl⟩ := lift_some h
    unfold cAV at hv
    split at hv
    · cases hv; exact wpAny_Constant_none (k.done C.st (Sm.rfl s) rfl)
    · cases hv; exact Constant_bool (k.done C.st (Sm.rfl s) rfl)
    · cases hv; exact wpAny_Constant_int (k.done (C.st.of_heap rfl) (sm_toks s _) ⟨_, rfl⟩)
    · cases hv; exact Constant_str (k.done (C.st.of_heap rfl) (sm_toks s _) ⟨_, rfl⟩)
    · cases hv
  | Name y0 p0 =>
    have h : lift σ (nmOf T fe y0 lc σ) = some x := h
    exact ev_name G h ax C k
  | Attribute e0 a0 p0 =>
    have h : cond (basOk e0) (bd (r.ev fe e0 lc σ) fun v σ => lift σ (getF T σ v a0)) .none = some x := h
    obtain ⟨hb0, h⟩ := cond_some h
    obtain ⟨z, hz, _⟩ := bd_some h
    refine attr_sound hb0 (H.ev _ _ _ _ _ hz _ _ _ _ _ _ _ _ _ _ _ _ _ _ ax C (Kc.bind h hz k fun v hf ρ₁ news₁ s₁ S N M b hb k' => ?_))
    obtain ⟨u, hu, rfl⟩ := lift_some hf
    exact getF_sound G hu S hb fun uv g => k'.done (S.of_heap rfl) (sm_toks s₁ _) g
  | Subscript e0 i0 p0 =>
    have h : cond (isSl i0) (evSl r fe e0 i0 lc σ) (bd (r.ev fe e0 lc σ) fun v σ => bd (r.ev fe i0 lc σ) fun u σ => lift σ (itemOf T σ v u)) = some x := h
    cases hs : isSl i0 with
    | true => rw [hs] at h; exact ev_slice G H h ax C k
    | false =>
    rw [hs, cond_false] at h
    obtain ⟨z, hz, _⟩ := bd_some h
    refine Subscript_ (H.ev _ _ _ _ _ hz _ _ _ _ _ _ _ _ _ _ _ _ _ _ ax C (Kc.bind h hz k fun v hf ρ₁ news₁ s₁ S N M b hb k' => ?_))
    obtain ⟨y, hy, _⟩ := bd_some hf
    refine H.ev _ _ _ _ _ hy _ _ _ _ _ _ _ _ _ _ _ _ _ _ ax (C.next S N) (Kc.bind hf hy k' fun u hg ρ₂ news₂ s₂ S' N' M' b' hb' k'' => ?_)
    obtain ⟨u', hu, rfl⟩ := lift_some hg
    exact item_sound G hu hs S' (N'.vr hb) hb' (KO.of k'' rfl S')
  | Compare a0 ops bs p0 =>
    have h : (match one ops with | some op => (match one bs with | some b => bd (evCmp T r fe a0 op b lc σ) (fun t σ => pu (AV.bool t) σ) | .none => .none) | .none => .none) = some x := h
    split at h
    · rename_i op hop
      split at h
      · rename_i b hbb
        rw [one_eq hop, one_eq hbb]
        obtain ⟨z, hz, _⟩ := bd_some h
        obtain ⟨hs, hz'⟩ := cond_none hz
        exact wpAny_Compare1 (evCmp_sound G H hz' ax C (Q := fun t s' => Q (.bool t) s') (fun _ _ y => y) (Kc.bind h hz k fun t hf ρ₁ news₁ s₁ S N M b hb k' => by
          cases hf; cases hb
          exact k'.done S (Sm.rfl _) rfl)) hs
      · cases h
    · cases h
  | BinOp a0 op b0 p0 =>
    have h : (bd (r.ev fe a0 lc σ) fun v σ => bd (r.ev fe b0 lc σ) fun u σ => lift σ (binOf op v u)) = some x := h
    obtain ⟨z, hz, _⟩ := bd_some h
    refine wpAny_BinOp (H.ev _ _ _ _ _ hz _ _ _ _ _ _ _ _ _ _ _ _ _ _ ax C (Kc.bind h hz k fun v hf ρ₁ news₁ s₁ S N M b hb k' => ?_))
    obtain ⟨y, hy, _⟩ := bd_some hf
    refine H.ev _ _ _ _ _ hy _ _ _ _ _ _ _ _ _ _ _ _ _ _ ax (C.next S N) (Kc.bind hf hy k' fun u hg ρ₂ news₂ s₂ S' N' M' b' hb' k'' => ?_)
    obtain ⟨u', hu, rfl⟩ := lift_some hg
    exact bin_sound hu (N'.vr hb) hb' (KO.of k'' rfl S')
  | UnaryOp op a0 p0 =>
    exact ev_un H h ax C k
  | BoolOp op es p0 =>
    exact ev_bool H h ax C k
  | IfExp t0 a0 b0 p0 =>
    have h : (bd (r.tr fe t0 lc σ) fun c σ => cond c (r.ev fe a0 lc σ) (r.ev fe b0 lc σ)) = some x := h
    obtain ⟨z, hz, _⟩ := bd_some h
    refine IfExp_ (H.tr _ _ _ _ _ hz _ _ _ _ _ _ _ _ _ _ _ _ _ _ _ ax C (Kc.bind h hz k fun v hf ρ₁ news₁ s₁ S N M b hb k' => ?_) (.inl rfl))
    subst hb
    cases v with
    | true => exact H.ev _ _ _ _ _ hf _ _ _ _ _ _ _ _ _ _ _ _ _ _ ax (C.next S N) k'
    | false => exact H.ev _ _ _ _ _ hf _ _ _ _ _ _ _ _ _ _ _ _ _ _ ax (C.next S N) k'
  | Tuple es c0 p0 =>
    have h : (bd (evs r fe es lc σ) fun vs σ => cond (Nat.ble vs.length 900) (mk1 (.tup vs) σ) .none) = some x := h
    obtain ⟨z, hz, _⟩ := bd_some h
    refine Tuple_ (evs_sound H.ev hz ax C (Kc.bind h hz k fun vs hf ρ₁ news₁ s₁ S N M bs hbs k' => ?_))
    obtain ⟨hle, hf⟩ := cond_some hf
    cases hf
    have hl := hbs.len
    have := Nat.le_of_ble_eq_true hle
    refine newTuple_N S.fr S.nw (fun h' F' N' => ?_) (by rw [sizeLine_eq]; omega)
    obtain ⟨S', X'⟩ := S.alloc (ao := .tup vs) (s' := { s₁ with heap := h' }) F' N' (News.low S.nw) ⟨_, rfl, hbs.mono (Nat.le_succ _) (Mine.upd_ext _ _ _)⟩ rfl
    exact k'.done' S' X' ⟨rfl, rfl, rfl⟩ ⟨Nat.lt_succ_self _, by rw [upd_self]⟩
  | List es p0 =>
    have h : (bd (evs r fe es lc σ) fun vs σ => cond (Nat.ble vs.length 900) (mk1 (.list vs) σ) .none) = some x := h
    obtain ⟨z, hz, _⟩ := bd_some h
    refine List_ (evs_sound H.ev hz ax C (Kc.bind h hz k fun vs hf ρ₁ news₁ s₁ S N M bs hbs k' => ?_))
    obtain ⟨hle, hf⟩ := cond_some hf
    cases hf
    have hl := hbs.len
    have := Nat.le_of_ble_eq_true hle
    refine newList_K S.fr S.nw (fun l h' F' N' lt => ?_) (by rw [sizeLine_eq]; omega)
    obtain ⟨S', X'⟩ := S.alloc (ao := .list vs) (s' := { s₁ with heap := h' }) F' N' lt ⟨_, _, rfl, LR.mono (Nat.le_succ _) (Mine.upd_ext _ _ _) hbs⟩ rfl
    exact k'.done' S' X' ⟨rfl, rfl, rfl⟩ ⟨Nat.lt_succ_self _, by rw [upd_self]⟩
  | Dict ks vs p0 =>
    exact ev_dict G H h ax C k
  | Call f0 es kw p0 =>
    have h : cond kw.isEmpty (evCall T r fe f0 es p0 lc σ) .none = some x := h
    obtain ⟨hkw, h⟩ := cond_some h
    rw [List.isEmpty_iff.mp hkw]
    exact ev_call G H h ax C k
  | ListComp elt gens sc0 p0 =>
    exact ev_comp G H h ax C k
  | _ => cases h
end
end Mine
end

section
open PySem PySem.W PyProof.Rows PySem.Calls
set_option Elab.async false
set_option maxRecDepth 100000
set_option linter.unusedVariables false
namespace Mine
section
variable {prog : Program} {w : World} {sc : List Int} {h₀ : Heap} {T : ITab} {K : Frag} {p : Program} {loose : List Str} {mean : ExcName → Option Value} {mg mb : Str → Option Value}
variable {A : Around} {cn : Str} {a : Addr} {ccd : Value} {cl : List (Str × Addr)} {outer : List Env} {fs : Fs} {L : Addr} {m : Str → Option Value} {fe : FE} {lc : Lc} {σ : AS} {ρ : Nat → Addr} {news : List (Addr × Obj)} {s : Shared} {E : Value → Shared → Prop}
theorem plain_tr {r : Rc} {n : Nat} (H : Snd prog w sc h₀ r n) {e : Expr} {x : Option Bool × AS} {Q : Bool → Shared → Prop} {whole : Sem Value} (h : bd (r.ev fe e lc σ) (fun v σ => lift σ (truth σ v)) = some x)
    (hp : PySem.isTrue e (envX cn fe.sc L a ccd cl) whole = (do let v ← whole; standAt e.pos; holding [v] (truthy v)))
    (ax : AX A (envX cn fe.sc L a ccd cl) outer L fs n) (C : Cf prog w sc h₀ fs L m fe cl lc σ ρ news s) (k : Kc prog w sc h₀ fs L m BR σ ρ news s x Q E) (hw : whole = eval e (envX cn fe.sc L a ccd cl)) : wpAny (model prog w) A (PySem.isTrue e (envX cn fe.sc L a ccd cl) whole) Q E s := by
  subst hw
  obtain ⟨z, hz, _⟩ := bd_some h
  refine isTrue_plain (H.ev _ _ _ _ _ hz _ _ _ _ _ _ _ _ _ _ _ _ _ _ ax C (Kc.bind h hz k fun v hf ρ₁ news₁ s₁ S N M b hb k' => ?_)) hp
  obtain ⟨t, ht, rfl⟩ := lift_some hf
  exact truth_sound ht hb (k'.done S (Sm.rfl _) rfl)
theorem tr_bool {r : Rc} {n : Nat} (H : Snd prog w sc h₀ r n) {op : BoolOp} {es : List Expr} {pos : Pos} {x : Option Bool × AS} {Q : Bool → Shared → Prop} {whole : Sem Value} (h : trBool r fe op es pos lc σ = some x)
    (ax : AX A (envX cn fe.sc L a ccd cl) outer L fs n) (C : Cf prog w sc h₀ fs L m fe cl lc σ ρ news s) (k : Kc prog w sc h₀ fs L m BR σ ρ news s x Q E) :
    wpAny (model prog w) A (PySem.isTrue (.BoolOp op es pos) (envX cn fe.sc L a ccd cl) whole) Q E s := by
  unfold trBool at h
  cases es with
  | nil => cases op with
    | And => cases h; exact isTrue_and_nil (k.done C.st (Sm.rfl _) rfl)
    | Or => cases h; exact isTrue_or_nil (k.done C.st (Sm.rfl _) rfl)
  | cons e es => cases op with
    | And =>
      obtain ⟨z, hz, _⟩ := bd_some h
      refine isTrue_and (H.tr _ _ _ _ _ hz _ _ _ _ _ _ _ _ _ _ _ _ _ _ _ ax C (Kc.bind h hz k fun v hf ρ₁ news₁ s₁ S N M b hb k' => ?_) (.inl rfl))
      subst hb
      cases v with
      | true => exact H.tr _ _ _ _ _ hf _ _ _ _ _ _ _ _ _ _ _ _ _ _ _ ax (C.next S N) k' (.inr trivial)
      | false => cases hf; exact k'.done S (Sm.rfl _) rfl
    | Or =>
      obtain ⟨z, hz, _⟩ := bd_some h
      refine isTrue_or (H.tr _ _ _ _ _ hz _ _ _ _ _ _ _ _ _ _ _ _ _ _ _ ax C (Kc.bind h hz k fun v hf ρ₁ news₁ s₁ S N M b hb k' => ?_) (.inl rfl))
      subst hb
      cases v with
      | true => cases hf; exact k'.done S (Sm.rfl _) rfl
      | false => exact H.tr _ _ _ _ _ hf _ _ _ _ _ _ _ _ _ _ _ _ _ _ _ ax (C.next S N) k' (.inr trivial)
theorem tr_cmp (G : Glb T K p loose mean mg mb h₀) {r : Rc} {n : Nat} (H : Snd prog w sc h₀ r n) {e1 : Expr} {ops : List CmpOp} {bs : List Expr} {pos : Pos} {x : Option Bool × AS} {Q : Bool → Shared → Prop} (h : trCmp T r fe e1 ops bs lc σ = some x)
    (ax : AX A (envX cn fe.sc L a ccd cl) outer L fs n) (C : Cf prog w sc h₀ fs L m fe cl lc σ ρ news s) (k : Kc prog w sc h₀ fs L m BR σ ρ news s x Q E) :
    wpAny (model prog w) A (PySem.isTrue (.Compare e1 ops bs pos) (envX cn fe.sc L a ccd cl) (eval (.Compare e1 ops bs pos) (envX cn fe.sc L a ccd cl))) Q E s := by
  unfold trCmp at h
  split at h
  · rename_i op hop
    split at h
    · rename_i b hbb
      rw [one_eq hop, one_eq hbb]
      obtain ⟨hs, h⟩ := cond_none h
      exact wpAny_isTrue_Compare1 (evCmp_sound G H h ax C (fun _ _ y => wpAny_truthy_bool y) k) hs
    · cases h
  · split at h
    · rename_i op op' hop
      split at h
      · rename_i b c hbb
        rw [two_eq hop, two_eq hbb]
        obtain ⟨hs, h⟩ := cond_none h
        obtain ⟨z, hz, _⟩ := bd_some h
        refine isTrue_chain (H.ev _ _ _ _ _ hz _ _ _ _ _ _ _ _ _ _ _ _ _ _ ax C (Kc.bind h hz k fun v hf ρ₁ news₁ s₁ S N M b hb k' => ?_)) hs
        obtain ⟨y, hy, _⟩ := bd_some hf
        refine test_link (H.ev _ _ _ _ _ hy _ _ _ _ _ _ _ _ _ _ _ _ _ _ ax (C.next S N) (Kc.bind hf hy k' fun u hg ρ₂ news₂ s₂ S' N' M' b' hb' k'' => ?_))
        obtain ⟨q, hq, hq2⟩ := bd_some hg
        obtain ⟨t, ht, rfl⟩ := lift_some hq
        refine cmp_sound G ht S' (un_lt ax.un (by decide)) (N'.vr hb) hb' (wpAny_truthy_bool ?_)
        cases t with
        | false => cases hq2; exact k''.done S' (Sm.rfl _) rfl
        | true =>
          dsimp only [cond_true] at hq2
          obtain ⟨q3, hq3, _⟩ := bd_some hq2
          refine test_last (H.ev _ _ _ _ _ hq3 _ _ _ _ _ _ _ _ _ _ _ _ _ _ ax ((C.next S N).next S' N') (Kc.bind hq2 hq3 k'' fun u3 hg3 ρ₃ news₃ s₃ S3 N3 M3 b3 hb3 k3 => ?_))
          obtain ⟨t', ht', rfl⟩ := lift_some hg3
          exact cmp_sound G ht' S3 (un_lt ax.un (by decide)) (N3.vr hb') hb3 (wpAny_truthy_bool (k3.done S3 (Sm.rfl _) rfl))
      · cases h
    · cases h
theorem tr1_sound (G : Glb T K p loose mean mg mb h₀) {r : Rc} {n : Nat} (H : Snd prog w sc h₀ r n) : STr prog w sc h₀ (stp T r) (n + 1) := by
  intro fe e lc σ x h A cn a ccd cl outer fs L m ρ news s Q E whole ax' C k hw
  have ax := ax'.le (Nat.le_succ n)
  have h : tr1 T r fe e lc σ = some x := h
  cases e with
  | UnaryOp op a p => cases op with
    | Not =>
      have h : bd (r.tr fe a lc σ) (fun b σ => pu (!b) σ) = some x := h
      obtain ⟨z, hz, _⟩ := bd_some h
      refine isTrue_not (H.tr _ _ _ _ _ hz _ _ _ _ _ _ _ _ _ _ _ _ _ _ _ ax C (Kc.bind h hz k fun v hf ρ₁ news₁ s₁ S N M b hb k' => ?_) (.inl rfl))
      subst hb; cases hf
      exact k'.done S (Sm.rfl _) rfl
    | _ => cases h
  | BoolOp op es p => exact tr_bool H h ax C k
  | Compare a ops bs p => rw [hw.resolve_right id]; exact tr_cmp G H h ax C k
  | Call f es kw p => exact plain_tr H h rfl ax C k (hw.resolve_right id)
  | Attribute b y p => exact plain_tr H h rfl ax C k (hw.resolve_right id)
  | Name y p => exact plain_tr H h rfl ax C k (hw.resolve_right id)
  | _ => cases h
theorem KS.move {σ₁ : AS} {ρ₁ : Nat → Addr} {news₁ : List (Addr × Obj)} {s₁ : Shared} {x : Fl × Lc × AS} {Q : Flow → Shared → Prop} (k : KS prog w sc h₀ fs L σ ρ news s x Q E) (N : Nx fs σ ρ news σ₁ ρ₁ news₁) (M : Sm s s₁) : KS prog w sc h₀ fs L σ₁ ρ₁ news₁ s₁ x Q E :=
  fun m' ρ' news' s' S' l' N' M' => by
    have := k m' ρ' news' s' S' l' (N.trans N') (M.trans M')
    obtain ⟨x1, x2⟩ := x
    cases x1 with
    | next => exact this
    | ret v => exact this
    | exc => exact fun ev e d oe vs es k t X hf => this ev e d oe vs es k t X (N.old hf)
theorem gx_some {α : Type} {y : Rs α} {f : α → AS → Option (Fl × Lc × AS)} {x : Fl × Lc × AS} (h : gx lc y f = some x) : ∃ z, y = some z ∧ (match z.1 with | some a => f a z.2 = some x | none => x = (.exc, lc, z.2)) := by
  unfold gx at h
  split at h
  · exact ⟨_, rfl, h⟩
  · exact ⟨_, rfl, by cases h; rfl⟩
  · cases h
theorem KS.bind {α β : Type} {Rl : Nat → (Nat → Addr) → α → β → Prop} {y : Rs α} {z : Option α × AS} {f : α → AS → Option (Fl × Lc × AS)} {x : Fl × Lc × AS} {Q : Flow → Shared → Prop} {Q' : β → Shared → Prop} (hx : gx lc y f = some x) (hy : y = some z)
    (C : Cf prog w sc h₀ fs L m fe cl lc σ ρ news s) (k : KS prog w sc h₀ fs L σ ρ news s x Q E)
    (h : ∀ a, f a z.2 = some x → ∀ ρ₁ news₁ s₁, Cf prog w sc h₀ fs L m fe cl lc z.2 ρ₁ news₁ s₁ → Nx fs σ ρ news z.2 ρ₁ news₁ → Sm s s₁ → ∀ b, Rl z.2.n ρ₁ a b → KS prog w sc h₀ fs L z.2 ρ₁ news₁ s₁ x Q E → Q' b s₁) :
    Kc prog w sc h₀ fs L m Rl σ ρ news s z Q' E := by
  obtain ⟨z', hz', hz⟩ := gx_some hx
  rw [hy] at hz'
  cases hz'
  intro ρ' news' s' S' N' M'
  obtain ⟨z1, z2⟩ := z
  cases z1 with
  | some a => exact fun b hb => h a hz ρ' news' s' (C.next S' N') N' M' b hb (k.move N' M')
  | none =>
    dsimp only at hz
    subst hz
    exact k m ρ' news' s' S' (C.lc.mono N'.le N'.ext) N' M'
theorem exs_sound {r : Rc} {n : Nat} (H : SEx prog w sc h₀ r n) : ∀ {ss : List Stmt} {lc : Lc} {σ : AS} {x : Fl × Lc × AS}, exs r fe ss lc σ = some x →
    ∀ {m : Str → Option Value} {ρ : Nat → Addr} {news : List (Addr × Obj)} {s : Shared} {Q : Flow → Shared → Prop}, AX A (envX cn fe.sc L a ccd cl) outer L fs n → Cf prog w sc h₀ fs L m fe cl lc σ ρ news s → KS prog w sc h₀ fs L σ ρ news s x Q E →
    wpAny (model prog w) A (execs ss (envX cn fe.sc L a ccd cl)) Q E s
  | [], lc, σ, x, h, m, ρ, news, s, Q, ax, C, k => by
    cases h
    exact wpAny_execs_nil (k m ρ news s C.st C.lc .refl (Sm.rfl s))
  | st :: ss, lc, σ, x, h, m, ρ, news, s, Q, ax, C, k => by
    rw [exs_2] at h
    split at h
    · rename_i lc' σ' hs
      refine wpAny_execs_cons (H _ _ _ _ _ hs _ _ _ _ _ _ _ _ _ _ _ _ _ _ ax C fun m' ρ' news' s' S' l' N' M' => ?_)
      exact exs_sound H h ax ⟨S', l', C.cl.mono N'.le N'.ext⟩ (k.move N' M')
    · rename_i hne
      refine wpAny_execs_cons (H _ _ _ _ _ h _ _ _ _ _ _ _ _ _ _ _ _ _ _ ax C fun m' ρ' news' s' S' l' N' M' => ?_)
      have := k m' ρ' news' s' S' l' N' M'
      obtain ⟨x1, x2, x3⟩ := x
      cases x1 with
      | next => exact absurd h (hne x2 x3)
      | ret v => exact this
      | exc => exact this
end
end Mine
end

section
open PySem PySem.W PyProof.Rows PySem.Calls
set_option Elab.async false
set_option maxRecDepth 100000
set_option linter.unusedVariables false
namespace Mine
section
variable {prog : Program} {w : World} {sc : List Int} {h₀ : Heap} {T : ITab} {K : Frag} {p : Program} {loose : List Str} {mean : ExcName → Option Value} {mg mb : Str → Option Value}
variable {A : Around} {cn : Str} {a : Addr} {ccd : Value} {cl : List (Str × Addr)} {outer : List Env} {fs : Fs} {L : Addr} {m : Str → Option Value} {fe : FE} {lc : Lc} {σ : AS} {ρ : Nat → Addr} {news : List (Addr × Obj)} {s : Shared} {E : Value → Shared → Prop}
theorem lk_pt {α : Type} {x y : Str} {v : α} : ∀ {l : List (Str × α)}, lk (pt x v l) y = if y = x then some v else lk l y
  | [] => by
    simp only [pt_1, pt_2, lk_1, lk_2]
    cases q : sEq x y with
    | true => rw [if_pos (sEq_iff.mp q).symm]; rfl
    | false => rw [if_neg (fun e => sEq_ne q e.symm)]; rfl
  | (z, u) :: l => by
    simp only [pt_1, pt_2]
    cases c : sEq z x with
    | true =>
      have hz : z = x := sEq_iff.mp c
      subst hz
      simp only [cond_true, lk_1, lk_2]
      cases q : sEq z y with
      | true => rw [if_pos (sEq_iff.mp q).symm]; rfl
      | false => rw [if_neg (fun e => sEq_ne q e.symm)]; rfl
    | false =>
      simp only [cond_false, lk_1, lk_2]
      rw [lk_pt]
      cases q : sEq z y with
      | true =>
        have hz : z = y := sEq_iff.mp q
        subst hz
        rw [if_neg (sEq_ne c), if_neg (sEq_ne c)]
      | false => rfl
theorem LcR.put {n : Nat} {x : Str} {v : AV} {u : Value} (h : LcR n ρ lc m) (hv : VR n ρ v u) : LcR n ρ (pt x v lc) (fun y => if y = x then some u else m y) := by
  intro y b hb
  rw [lk_pt] at hb
  by_cases e : y = x
  · rw [if_pos e] at hb; cases hb; exact ⟨u, if_pos e, hv⟩
  · rw [if_neg e] at hb
    obtain ⟨z, h1, h2⟩ := h y b hb
    exact ⟨z, (if_neg e).trans h1, h2⟩
/-- what a store leaves -/
noncomputable def KT (prog : Program) (w : World) (sc : List Int) (h₀ : Heap) (fs : Fs) (L : Addr) (σ : AS) (ρ : Nat → Addr) (news : List (Addr × Obj)) (s : Shared) (lc' : Lc) (σ' : AS) (Q : Shared → Prop) : Prop :=
  ∀ m' ρ' news' s', St prog w sc h₀ fs L m' σ' ρ' news' s' → LcR σ'.n ρ' lc' m' → Nx fs σ ρ news σ' ρ' news' → Sm s s' → Q s'
theorem st1_sound {x : Str} {v : AV} {vv : Value} {lc' : Lc} {σ' : AS} {n : Nat} {Q : Unit → Shared → Prop} (h : st1 fe x v lc σ = some (lc', σ')) (ax : AX A (envX cn fe.sc L a ccd cl) outer L fs n) (C : Cf prog w sc h₀ fs L m fe cl lc σ ρ news s)
    (hv : VR σ.n ρ v vv) (k : KT prog w sc h₀ fs L σ ρ news s lc' σ' (Q ())) : wpAny (model prog w) A (storeName (envX cn fe.sc L a ccd cl) x vv) Q E s := by
  have hk : fe.sc.kind = .function := ax.kind
  unfold st1 at h
  split at h
  · rename_i hq
    cases h
    refine storeX_L C.st.fr C.st.nw (fun h' F' N' => ?_) hk (by rw [kindOf_env]; exact hq)
    exact k _ ρ news _ ⟨F', N', C.st.sy⟩ (C.lc.put hv) .refl ⟨rfl, rfl, rfl⟩
  · rename_i hq
    split at h
    · rename_i i hi
      obtain ⟨h1, h2⟩ := C.cl.get hi
      split at h
      · rename_i o hg
        cases h
        obtain ⟨ob, m1, m2, m3⟩ := C.st.get hg
        obtain ⟨g, U, Ch⟩ := updF_ex m1 C.st.sy.nd
        have hd : ∃ v₀, ob.data = .cell v₀ := by cases o with
          | none => exact ⟨_, m3⟩
          | some o => obtain ⟨u, e, _⟩ := m3; exact ⟨_, e⟩
        obtain ⟨v₀, hd⟩ := hd
        refine storeX_C C.st.fr C.st.nw h2 U hd (fun h' o' F' N' hd' => ?_) hk (by rw [kindOf_env]; exact hq)
        obtain ⟨S', X'⟩ := C.st.put ⟨_, hg⟩ (Ch o') F' N' (ao := .cell (some v)) (s' := { s with heap := h' }) ⟨_, hd', hv⟩ rfl
        exact k _ ρ _ _ S' (C.lc.mono X'.le X'.ext) X' ⟨rfl, rfl, rfl⟩
      · cases h
    · cases h
  · cases h
theorem swaps_eq {e : Expr} {t : Option Expr} {l : Nat} {env : Env} (h : isCmp e = false) : swapsWith e t l env = pure false := by
  cases e <;> first | rfl | cases h
theorem inter_eq (hk : fe.sc.kind = .function) : interactive (envX cn fe.sc L a ccd cl) = false := by
  unfold interactive
  have : (envX cn fe.sc L a ccd cl).scope.kind = .function := hk
  rw [this]; rfl
theorem swp_eq {t e : Expr} {y : Option (List Str)} (h : swp fe t e = some y) : swappedStores [t] e (envX cn fe.sc L a ccd cl) = pure y := by
  have h : (match swappedStores [t] e (envX Str.empty fe.sc 0 0 .none []) with | .pure r => some r | _ => .none) = some y := h
  show swappedStores [t] e (envX Str.empty fe.sc 0 0 .none []) = pure y
  cases q : swappedStores [t] e (envX Str.empty fe.sc 0 0 .none []) with
  | pure r => rw [q] at h; cases h; rfl
  | _ => rw [q] at h; cases h
theorem nx_some {y : Option (Lc × AS)} {x : Fl × Lc × AS} (h : nx y = some x) : ∃ lc' σ', y = some (lc', σ') ∧ x = (.next, lc', σ') := by
  unfold nx at h
  split at h
  · cases h; exact ⟨_, _, rfl, rfl⟩
  · cases h
theorem nx1_some {y : Option AS} {x : Fl × Lc × AS} (h : nx1 lc y = some x) : ∃ σ', y = some σ' ∧ x = (.next, lc, σ') := by
  unfold nx1 at h
  split at h
  · cases h; exact ⟨_, rfl, rfl⟩
  · cases h
theorem seqOf_sound {v : AV} {vv : Value} {vs : List AV} (h : seqOf σ v = some vs) (S : St prog w sc h₀ fs L m σ ρ news s) (hv : VR σ.n ρ v vv) : ∃ t its, vv = .ref t ∧ IsTup s.heap t its ∧ LR σ.n ρ vs its.toList := by
  unfold seqOf at h
  split at h
  · split at h
    · rename_i xs hg
      cases h
      obtain ⟨its, I, R⟩ := tup_at S hg
      exact ⟨_, its, hv.2, I, R⟩
    · cases h
  · cases h
theorem St.extBut {h' : Heap} (S : St prog w sc h₀ fs L m σ ρ news s) (x : Heap.ExtBut s.heap.objs.size s.heap h') : St prog w sc h₀ fs L m σ ρ news { s with heap := h' } :=
  ⟨S.fr.extBut x (Nat.le_refl _), fun q hq => ⟨x q.1 q.2 (Nat.ne_of_lt (Heap.lt_size (S.nw q hq).1)) (S.nw q hq).1, (S.nw q hq).2⟩, S.sy⟩
theorem stN_sound {n : Nat} : ∀ {xs : List Str} {vs : List AV} {us : List Value} {lc lc' : Lc} {σ σ' : AS}, stN fe xs vs lc σ = some (lc', σ') → ∀ {m : Str → Option Value} {ρ : Nat → Addr} {news : List (Addr × Obj)} {s : Shared} {Q : Unit → Shared → Prop},
    AX A (envX cn fe.sc L a ccd cl) outer L fs n → Cf prog w sc h₀ fs L m fe cl lc σ ρ news s → LR σ.n ρ vs us → KT prog w sc h₀ fs L σ ρ news s lc' σ' (Q ()) →
    wpAny (model prog w) A (assignInOrder (xs.map fun x => bindName (envX cn fe.sc L a ccd cl) x) us) Q E s
  | [], [], [], lc, lc', σ, σ', h, m, ρ, news, s, Q, ax, C, r, k => by
    cases h
    exact assignInOrder_nil (k m ρ news s C.st C.lc .refl (Sm.rfl s))
  | x :: xs, v :: vs, u :: us, lc, lc', σ, σ', h, m, ρ, news, s, Q, ax, C, r, k => by
    rw [stN_2] at h
    split at h
    · rename_i lc1 σ1 hs
      refine assignInOrder_cons (bindName_ (st1_sound hs ax C r.1 fun m' ρ' news' s' S' l' N' M' => ?_))
      exact stN_sound h ax ⟨S', l', C.cl.mono N'.le N'.ext⟩ (N'.lr r.2) fun m2 ρ2 n2 s2 S2 l2 N2 M2 => k m2 ρ2 n2 s2 S2 l2 (N'.trans N2) (M'.trans M2)
    · cases h
  | [], [], _ :: _, _, _, _, _, _, _, _, _, _, _, _, _, r, _ => r.elim
  | [], _ :: _, _, _, _, _, _, h, _, _, _, _, _, _, _, _, _ => nomatch h
  | _ :: _, [], _, _, _, _, _, h, _, _, _, _, _, _, _, _, _ => nomatch h
  | _ :: _, _ :: _, [], _, _, _, _, _, _, _, _, _, _, _, _, r, _ => r.elim
theorem asg_sound (G : Glb T K p loose mean mg mb h₀) {r : Rc} {n : Nat} (H : Snd prog w sc h₀ r n) {t : Expr} {v : AV} {vv : Value} {x : Fl × Lc × AS} {Q : Unit → Shared → Prop} (h : asg T r fe t v lc σ = some x)
    (ax : AX A (envX cn fe.sc L a ccd cl) outer L fs n) (C : Cf prog w sc h₀ fs L m fe cl lc σ ρ news s) (hv : VR σ.n ρ v vv) (k : KS prog w sc h₀ fs L σ ρ news s x (fun _ => Q ()) E) :
    wpAny (model prog w) A (assign t (envX cn fe.sc L a ccd cl) vv) Q E s := by
  cases t with
  | Name x0 p0 =>
    unfold asg at h
    dsimp only at h
    split at h
    · rename_i lc' σ' hs
      cases h
      exact PyProof.Rows.assign_Name (st1_sound hs ax C hv fun m' ρ' news' s' S' l' N' M' => k m' ρ' news' s' S' l' N' M')
    · cases h
  | Attribute o at' pp =>
    unfold asg at h
    dsimp only at h
    rw [assign_Attribute]
    refine wpAny_bind (wpAny_holding ?_)
    split at h
    · rename_i ov σ1 hz
      split at h
      · rename_i σ2 hs
        cases h
        refine H.ev _ _ _ _ _ hz _ _ _ _ _ _ _ _ _ _ _ _ _ _ ax C fun ρ' news' s' S' N' M' => ?_
        intro b hb
        refine wpAny_bind (wpAny_standAt (wpAny_bind (wpAny_holding (setF_sound G hs S' hb (N'.vr hv) fun ρ2 news2 s2 S2 X2 M2 => ?_))))
        refine wpAny_release ?_
        exact k m ρ2 news2 _ S2 (C.lc.mono (N'.trans X2).le (N'.trans X2).ext) (N'.trans X2) (M'.trans M2)
      · cases h
    · rename_i σ1 hz
      cases h
      refine H.ev _ _ _ _ _ hz _ _ _ _ _ _ _ _ _ _ _ _ _ _ ax C fun ρ' news' s' S' N' M' => ?_
      exact k m ρ' news' s' S' (C.lc.mono N'.le N'.ext) N' M'
    · cases h
  | _ => cases h
theorem asg_nr {T : ITab} {r : Rc} {fe : FE} {t : Expr} {v u : AV} {lc lc' : Lc} {σ σ' : AS} (h : asg T r fe t v lc σ = some (.ret u, lc', σ')) : False := by
  cases t with
  | Name x0 p0 =>
    unfold asg at h
    dsimp only at h
    split at h <;> cases h
  | Attribute o at' pp =>
    unfold asg at h
    dsimp only at h
    split at h
    · split at h <;> cases h
    · cases h
    · cases h
  | _ => cases h
theorem assignEach_eq {env : Env} {t : Expr} {ts : List Expr} (h : isStar t = false) : assignEach (t :: ts) env = (false, assign t env) :: assignEach ts env := by
  cases t <;> first | rfl | cases h
theorem asgs_sound (G : Glb T K p loose mean mg mb h₀) {r : Rc} {n : Nat} (H : Snd prog w sc h₀ r n) : ∀ {ts : List Expr} {vs : List AV} {us : List Value} {lc : Lc} {σ : AS} {x : Fl × Lc × AS}, asgs T r fe ts vs lc σ = some x →
    ∀ {m : Str → Option Value} {ρ : Nat → Addr} {news : List (Addr × Obj)} {s : Shared} {Q : Unit → Shared → Prop}, ts.all (fun e => !isStar e) = true → AX A (envX cn fe.sc L a ccd cl) outer L fs n → Cf prog w sc h₀ fs L m fe cl lc σ ρ news s → LR σ.n ρ vs us →
    KS prog w sc h₀ fs L σ ρ news s x (fun _ => Q ()) E → wpAny (model prog w) A (assignInOrder ((assignEach ts (envX cn fe.sc L a ccd cl)).map (·.2)) us) Q E s
  | [], [], [], lc, σ, x, h, m, ρ, news, s, Q, st, ax, C, q, k => by
    cases h
    exact assignInOrder_nil (k m ρ news s C.st C.lc .refl (Sm.rfl s))
  | t :: ts, v :: vs, u :: us, lc, σ, x, h, m, ρ, news, s, Q, st, ax, C, q, k => by
    rw [List.all_cons, Bool.and_eq_true] at st
    have h1 : isStar t = false := by simpa using st.1
    rw [assignEach_eq h1]
    rw [asgs_2] at h
    split at h
    · rename_i lc' σ' hs
      refine assignInOrder_cons (asg_sound G H hs ax C q.1 fun m' ρ' news' s' S' l' N' M' => ?_)
      exact asgs_sound G H h st.2 ax ⟨S', l', C.cl.mono N'.le N'.ext⟩ (N'.lr q.2) (k.move N' M')
    · rename_i hne
      refine assignInOrder_cons (asg_sound G H h ax C q.1 fun m' ρ' news' s' S' l' N' M' => ?_)
      have := k m' ρ' news' s' S' l' N' M'
      obtain ⟨x1, x2, x3⟩ := x
      cases x1 with
      | next => exact absurd h (hne x2 x3)
      | ret v =>
        exact (asg_nr h).elim
      | exc => exact this
  | [], [], _ :: _, _, _, _, _, _, _, _, _, _, _, _, _, r, _ => r.elim
  | [], _ :: _, _, _, _, _, h, _, _, _, _, _, _, _, _, _, _ => nomatch h
  | _ :: _, [], _, _, _, _, h, _, _, _, _, _, _, _, _, _, _ => nomatch h
  | _ :: _, _ :: _, [], _, _, _, _, _, _, _, _, _, _, _, _, r, _ => r.elim
theorem each_len {env : Env} : ∀ {ts : List Expr}, (assignEach ts env).length = ts.length
  | [] => rfl
  | t :: ts => by
    cases t <;> exact congrArg (· + 1) each_len
theorem each_star {env : Env} : ∀ {ts : List Expr}, ts.all (fun e => !isStar e) = true → (assignEach ts env).findIdx? (·.1) = none
  | [], _ => rfl
  | t :: ts, h => by
    rw [List.all_cons, Bool.and_eq_true] at h
    have h1 : isStar t = false := by simpa using h.1
    rw [assignEach_eq h1, List.findIdx?_cons, each_star h.2]
    rfl
end
end Mine
end

section
open PySem PySem.W PyProof.Rows PySem.Calls
set_option Elab.async false
set_option maxRecDepth 100000
set_option linter.unusedVariables false
namespace Mine
section
variable {prog : Program} {w : World} {sc : List Int} {h₀ : Heap} {T : ITab} {K : Frag} {p : Program} {loose : List Str} {mean : ExcName → Option Value} {mg mb : Str → Option Value}
variable {A : Around} {cn : Str} {a : Addr} {ccd : Value} {cl : List (Str × Addr)} {outer : List Env} {fs : Fs} {L : Addr} {m : Str → Option Value} {fe : FE} {lc : Lc} {σ : AS} {ρ : Nat → Addr} {news : List (Addr × Obj)} {s : Shared} {E : Value → Shared → Prop}
/-- a turn, on a part of the objects -/
theorem turn_sound {r : Rc} {n : Nat} (H : SEx prog w sc h₀ r n) {body : List Stmt} {ln : Nat} {v : AV} {x : Fl × Lc × AS} {Q : Flow → Shared → Prop} (h : turnS T r fe body ln v lc σ = some x)
    (ax : AX A (envX cn fe.sc L a ccd cl) outer L fs n) (C : Cf prog w sc h₀ fs L m fe cl lc σ ρ news s) (k : KS prog w sc h₀ fs L σ ρ news s x Q E) : wpAny (model prog w) A (execs body (envX cn fe.sc L a ccd cl)) Q E s := by
  unfold turnS at h
  split at h
  · exact exs_sound H h ax C k
  · rename_i f hf
    rw [wn_eq] at h
    split at h
    · rename_i fl lc' τ hx
      rw [wn_eq] at h
      obtain ⟨hc, h⟩ := cond_some h
      cases h
      rw [Bool.and_eq_true, Bool.and_eq_true] at hc
      obtain ⟨⟨c1, c2⟩, c3⟩ := hc
      have c1 := Nat.le_of_ble_eq_true c1
      have sub : ∀ i a, (⟨pk f.sel σ, σ.n⟩ : AS).get i = some a → σ.get i = some a := fun i a h => pk_get (get_fnd h)
      obtain ⟨Sp, Np⟩ := C.st.sub (τ := ⟨pk f.sel σ, σ.n⟩) (Nat.le_refl _) sub
      refine exs_sound H hx ax ⟨Sp, C.lc, C.cl⟩ fun m' ρ' news' s' S' l' N' M' => ?_
      have from_ : ∀ i a, (⟨pk (f.sel ++ addN σ.n f.new) τ ++ σ.o, σ.n + f.w⟩ : AS).get i = some a → τ.get i = some a ∨ (¬ Lv ⟨pk f.sel σ, σ.n⟩ i ∧ σ.get i = some a) := fun i a h => by
        have h := get_fnd h
        rw [show (⟨pk (f.sel ++ addN σ.n f.new) τ ++ σ.o, σ.n + f.w⟩ : AS).o = pk (f.sel ++ addN σ.n f.new) τ ++ σ.o from rfl, fnd_app] at h
        split at h
        · rename_i x hx; cases h; exact .inl (pk_get hx)
        · rename_i hn
          refine .inr ⟨fun ⟨b, hb⟩ => ?_, fnd_get h (keysLt_lt c3 h)⟩
          obtain ⟨c, hc⟩ := allIn_mem c2 (fnd_ky (get_fnd hb))
          rw [hn] at hc; cases hc
      obtain ⟨S2, N2⟩ := C.st.merge (π := ⟨pk f.sel σ, σ.n⟩) (τ := ⟨pk (f.sel ++ addN σ.n f.new) τ ++ σ.o, σ.n + f.w⟩) (Nat.le_refl _) sub S' N' c1 from_
      have q := k m' ρ' news' s' S2 (l'.mono c1 (fun _ _ => rfl)) N2 M'
      cases fl with
      | next => exact q
      | ret v => exact fun u hu => q u (hu.mono c1 (fun _ _ => rfl))
      | exc =>
        intro ev e d oe vs es kk t X hf2
        refine q ev e d oe vs es kk t { X with own := fun i hi => ?_ } hf2
        obtain ⟨b, hb⟩ := hi
        rcases from_ i b hb with h1 | ⟨h1, h2⟩
        · exact X.own i ⟨b, h1⟩
        · rw [N2.ext i (get_lt h2)]
          obtain ⟨o, g1, _⟩ := C.st.sy.own i b h2
          exact hf2 _ g1
    · cases h
theorem own_tuple {it : Addr} {vv : Value} {o : Obj} {tgt : Expr} {Q : Unit → Shared → Prop} (ho : s.heap.get? it = some o) (hc : o.cls = .type "list_iterator" ∨ o.cls = .type "range_iterator") (hq : Q () s) : wpAny (model prog w) A (letOwnedTupleGo tgt (.ref it) vv) Q E s := by
  have main : wpAny (model prog w) A (do
      let (.ref r, .ref a) := ((Value.ref it, vv) : Value × Value) | return
      let o ← load r
      match o.cls, o.data with
      | .type n, .fields vs =>
        if ["enumerate", "zip", "dict_itemiterator", "dict_reverseitemiterator", "odict_iterator", "itertools.zip_longest", "itertools.pairwise"].contains n && vs[0]? == some (rawInt a) then
          rule "for.unpacks-the-owned-tuple"
          updateField r 0 .none
      | _, _ => pure ()) Q E s := by
    cases vv <;> first | exact wpAny_pure hq | skip
    refine wpAny_bind (wpAny_load ho ?_)
    obtain ⟨oc, od, oda, osl⟩ := o
    dsimp only at hc
    rcases hc with rfl | rfl <;> cases oda <;> first | exact wpAny_pure hq | (dsimp only; rw [if_neg (by simp)]; exact wpAny_pure hq)
  cases tgt <;> first | exact wpAny_pure hq | exact main
theorem asgT_sound (G : Glb T K p loose mean mg mb h₀) {r : Rc} {n : Nat} (H : Snd prog w sc h₀ r n) {t : Expr} {v : AV} {vv : Value} {x : Fl × Lc × AS} {Q : Unit → Shared → Prop} (h : asgT T r fe t v lc σ = some x)
    (ax : AX A (envX cn fe.sc L a ccd cl) outer L fs n) (C : Cf prog w sc h₀ fs L m fe cl lc σ ρ news s) (hv : VR σ.n ρ v vv) (k : KS prog w sc h₀ fs L σ ρ news s x (fun _ => Q ()) E) :
    wpAny (model prog w) A (assign t (envX cn fe.sc L a ccd cl) vv) Q E s := by
  cases t with
  | Name x0 p0 =>
    have h : nx _ = some x := h
    obtain ⟨lc', σ', hs, rfl⟩ := nx_some h
    exact PyProof.Rows.assign_Name (st1_sound hs ax C hv fun m' ρ' news' s' S' l' N' M' => k m' ρ' news' s' S' l' N' M')
  | Tuple ts0 k0 p0 =>
    have h : cond (plainEs ts0) _ .none = some x := h
    obtain ⟨hpl, h⟩ := cond_some h
    split at h
    · rename_i vs hq
      obtain ⟨hl, h⟩ := cond_some h
      obtain ⟨t, its, rfl, I, R⟩ := seqOf_sound hq C.st hv
      have hl' := R.len
      have hl2 := Nat.eq_of_beq_eq_true hl
      refine assign_Tuple_tuple ax.hand I (by rw [each_len, hl2, ← hl', Array.length_toList]) (each_star hpl) fun h' he => ?_
      exact asgs_sound G H h hpl ax ⟨C.st.extBut he, C.lc, C.cl⟩ R (KS.move k .refl ⟨rfl, rfl, rfl⟩)
    · cases h
  | _ => cases h
theorem for_sound (G : Glb T K p loose mean mg mb h₀) {r : Rc} {n : Nat} (H : Snd prog w sc h₀ r n) {t : Expr} {body : List Stmt} {ln j : Nat} {x : Fl × Lc × AS} {Q : Flow → Shared → Prop} {σ₀ : AS} {ρ₀ : Nat → Addr} {news₀ : List (Addr × Obj)} {s₀ : Shared} {c : Nat}
    (h : forN T r fe t body ln j c lc σ = some x) (ax : AX A (envX cn fe.sc L a ccd cl) outer L fs n) (C : Cf prog w sc h₀ fs L m fe cl lc σ ρ news s) (N₀ : Nx fs σ₀ ρ₀ news₀ σ ρ news) (M₀ : Sm s₀ s) (hj : j < σ.n) (lj : σ₀.n ≤ j)
    (k : KS prog w sc h₀ fs L σ₀ ρ₀ news₀ s₀ x Q E) :
    codeAny (model prog w) A (.forLoop t (.ref (ρ j)) body [] (envX cn fe.sc L a ccd cl)) (fun r s' => match r with | .ok f => Q f s' | .error e => cameBackBy (model prog w) A (envX cn fe.sc L a ccd cl) E e s') s := by
  refine codeAny_forLoop_any (fun c s => ∃ (m : Str → Option Value) (lc : Lc) (σ : AS) (ρ' : Nat → Addr) (news : List (Addr × Obj)), forN T r fe t body ln j c lc σ = some x ∧ Cf prog w sc h₀ fs L m fe cl lc σ ρ' news s ∧ Nx fs σ₀ ρ₀ news₀ σ ρ' news ∧ Sm s₀ s ∧ j < σ.n ∧ ρ' j = ρ j)
    ?_ c ⟨m, lc, σ, ρ, news, h, C, N₀, M₀, hj, rfl⟩
  rintro c s ⟨m, lc, σ, ρ', news, h, C, N₀, M₀, hj, hr⟩
  rw [← hr]
  have hand := ax.hand
  cases c with
  | zero => cases h
  | succ c =>
    rw [forN_2] at h
    split at h
    · rename_i v σ1 hn
      refine next_item hn C.st fun u news1 s1 hu S1 N1 M1 hj1 => ?_
      dsimp only
      obtain ⟨aj, hgj⟩ := hj1
      obtain ⟨oj, _, gj, OJ⟩ := S1.get hgj
      have hcls : oj.cls = .type "list_iterator" ∨ oj.cls = .type "range_iterator" := by
        unfold nextOf at hn
        split at hn
        · rename_i i n' hjj
          cases q : Nat.blt i n' with
          | false => rw [q] at hn; cases hn
          | true =>
            rw [q] at hn
            cases hn
            rw [get_put _ _ _ _ (get_lt hjj), if_pos rfl] at hgj
            cases hgj
            obtain ⟨_, _, rfl⟩ := OJ
            exact .inr rfl
        · rename_i l i hjj
          split at hn
          · split at hn
            · cases hn
              rw [get_put _ _ _ _ (get_lt hjj), if_pos rfl] at hgj
              cases hgj
              exact .inl OJ.2.1
            · cases hn
          · cases hn
        · cases hn
      refine own_tuple gj hcls ?_
      split at h
      · rename_i lc2 σ2 ha
        have err : ∀ ev (s' : Shared) (E' : Value → Shared → Prop), notedBy (model prog w) A (envX cn fe.sc L a ccd cl) (cameBackBy (model prog w) A (envX cn fe.sc L a ccd cl) E) ev s' → notedBy (model prog w) A (envX cn fe.sc L a ccd cl) (fun e s' => cameBackBy (model prog w) A (envX cn fe.sc L a ccd cl) E e s') ev s' := fun _ _ _ z => z
        refine asgT_sound G H ha ax (C.next S1 N1) hu fun m2 ρ2 news2 s2 S2 l2 N2 M2 => ?_
        dsimp only
        have C2 : Cf prog w sc h₀ fs L m2 fe cl lc2 σ2 ρ2 news2 s2 := ⟨S2, l2, (C.cl.mono N1.le N1.ext).mono N2.le N2.ext⟩
        have N02 := (N₀.trans N1).trans N2
        have M02 := (M₀.trans M1).trans M2
        split at h
        · rename_i lc3 σ3 hb
          refine turn_sound H.ex hb ax C2 fun m3 ρ3 news3 s3 S3 l3 N3 M3 => ?_
          dsimp only
          have hj3 : j < σ3.n := Nat.lt_of_lt_of_le hj ((N1.trans N2).trans N3).le
          refine ⟨c, Nat.lt_succ_self _, m3, lc3, σ3, ρ3, news3, h, ⟨S3, l3, C2.cl.mono N3.le N3.ext⟩, N02.trans N3, M02.trans M3, hj3, ?_⟩
          rw [((N1.trans N2).trans N3).ext j hj, hr]
        · rename_i lc3 σ3 hb
          cases h
          refine turn_sound H.ex hb ax C2 fun m3 ρ3 news3 s3 S3 l3 N3 M3 => ?_
          intro ev e d oe vs es kk t X hf
          refine note_back ax.fr ax.out ax.frame ax.kind S3 X fun h' news4 oe' vs' S4 N4 X4 => ?_
          exact k m3 ρ3 news4 _ S4 l3 ((N02.trans N3).trans N4) ((M02.trans M3).trans ⟨rfl, rfl, rfl⟩) ev e d oe' vs' es kk t X4 (N02.old hf)
        · cases h
      · cases h
    · rename_i σ1 hn
      cases h
      refine next_end hn hand C.st fun e0 hj0 h' he => ?_
      subst e0
      obtain ⟨news2, S2, N2⟩ := C.st.drop (h' := h') N₀ hj0 lj he
      exact wpAny_execs_nil (k m ρ' news2 _ S2 C.lc N2 (M₀.trans ⟨rfl, rfl, rfl⟩))
    · cases h
end
end Mine
end

section
open PySem PySem.W PyProof.Rows PySem.Calls
set_option Elab.async false
set_option maxRecDepth 100000
set_option linter.unusedVariables false
namespace Mine
section
variable {prog : Program} {w : World} {sc : List Int} {h₀ : Heap} {T : ITab} {K : Frag} {p : Program} {loose : List Str} {mean : ExcName → Option Value} {mg mb : Str → Option Value}
variable {A : Around} {cn : Str} {a : Addr} {ccd : Value} {cl : List (Str × Addr)} {outer : List Env} {fs : Fs} {L : Addr} {m : Str → Option Value} {fe : FE} {lc : Lc} {σ : AS} {ρ : Nat → Addr} {news : List (Addr × Obj)} {s : Shared} {E : Value → Shared → Prop}
theorem sole_eq {e t : Expr} {l : Nat} {env : Env} (h : isCmp e = false) : swapsWithSole [t] e l env = pure false := by
  unfold swapsWithSole
  exact swaps_eq h
theorem next_of (Q : Flow → Shared → Prop) {x : Fl × Lc × AS} {lc' : Lc} {σ' : AS} (k : KS prog w sc h₀ fs L σ ρ news s x Q E) (e : x = (.next, lc', σ')) : KT prog w sc h₀ fs L σ ρ news s lc' σ' (Q .next) := by
  subst e
  exact fun m' ρ' news' s' S' l' N' M' => k m' ρ' news' s' S' l' N' M'
/-- a while loop, by the steps of the interpreter -/
theorem while_sound (G : Glb T K p loose mean mg mb h₀) {n : Nat} (IH : ∀ i, i ≤ n → Snd prog w sc h₀ (run T i) i) {t : Expr} {b : List Stmt} {pos : Pos} {x : Fl × Lc × AS} {Q : Flow → Shared → Prop}
    (h : (run T (n + 1)).ex fe (.While t b [] pos) lc σ = some x) (ax : AX A (envX cn fe.sc L a ccd cl) outer L fs (n + 1)) (C : Cf prog w sc h₀ fs L m fe cl lc σ ρ news s) (k : KS prog w sc h₀ fs L σ ρ news s x Q E) :
    wpAny (model prog w) A (exec (.While t b [] pos) (envX cn fe.sc L a ccd cl)) Q E s := by
  refine wpAny_While (codeAny_whileLoop (fun j s => ∃ (m : Str → Option Value) (lc : Lc) (σ : AS) (ρ : Nat → Addr) (news : List (Addr × Obj)), j ≤ n + 1 ∧ (run T j).ex fe (.While t b [] pos) lc σ = some x ∧ Cf prog w sc h₀ fs L m fe cl lc σ ρ news s ∧ KS prog w sc h₀ fs L σ ρ news s x Q E)
    ?_ (n + 1) ⟨m, lc, σ, ρ, news, Nat.le_refl _, h, C, k⟩)
  rintro j s ⟨m, lc, σ, ρ, news, hj, h, C, k⟩
  cases j with
  | zero => cases h
  | succ j =>
    have hj' : j ≤ n := by omega
    have H := IH j hj'
    have axj := ax.le (Nat.le_succ_of_le hj')
    replace h : ex1 T (run T j) fe (.While t b [] pos) lc σ = some x := h
    replace h : (match (run T j).tr fe t lc σ with
      | some (some true, σ) => (match exs (run T j) fe b lc σ with
         | some (.next, lc, σ) => (run T j).ex fe (.While t b [] pos) lc σ
         | _ => .none)
      | some (some false, σ) => some (.next, lc, σ)
      | _ => .none) = some x := h
    split at h
    · rename_i σ1 ht
      split at h
      · rename_i lc2 σ2 hb
        refine H.tr _ _ _ _ _ ht _ _ _ _ _ _ _ _ _ _ _ _ _ _ _ axj C (fun ρ' news' s' S' N' M' => ?_) (.inl rfl)
        intro c hc
        cases hc
        rw [if_pos rfl]
        refine exs_sound H.ex hb axj (C.next S' N') fun m2 ρ2 news2 s2 S2 l2 N2 M2 => ?_
        exact ⟨j, Nat.lt_succ_self _, m2, lc2, σ2, ρ2, news2, by omega, h, ⟨S2, l2, (C.next S' N').cl.mono N2.le N2.ext⟩, k.move (N'.trans N2) (M'.trans M2)⟩
      · cases h
    · rename_i σ1 ht
      cases h
      refine H.tr _ _ _ _ _ ht _ _ _ _ _ _ _ _ _ _ _ _ _ _ _ axj C (fun ρ' news' s' S' N' M' => ?_) (.inl rfl)
      intro c hc
      cases hc
      rw [if_neg Bool.false_ne_true]
      exact wpAny_execs_nil (k m ρ' news' s' S' (C.lc.mono N'.le N'.ext) N' M')
    · cases h
theorem KR.len {n : Nat} : ∀ {fs : Lc} {es : List (Str × Value)}, KR n ρ fs es → es.length = fs.length
  | [], [], _ => rfl
  | (_, _) :: _, (_, _) :: _, h => congrArg (· + 1) (KR.len h.2.2)
  | [], _ :: _, h => h.elim
  | _ :: _, [], h => h.elim
theorem KR.app {n : Nat} {x : Str} {v : AV} {u : Value} (hv : VR n ρ v u) : ∀ {fs : Lc} {es : List (Str × Value)}, KR n ρ fs es → KR n ρ (fs ++ [(x, v)]) (es ++ [(x, u)])
  | [], [], _ => ⟨rfl, hv, trivial⟩
  | (_, _) :: _, (_, _) :: _, h => ⟨h.1, h.2.1, KR.app hv h.2.2⟩
  | [], _ :: _, h => h.elim
  | _ :: _, [], h => h.elim
theorem KR.none_ {n : Nat} {x : Str} : ∀ {fs : Lc} {es : List (Str × Value)}, KR n ρ fs es → lk fs x = none → es.any (fun kv => decide (kv.1 = x)) = false
  | [], [], _, _ => rfl
  | (y, _) :: _, (z, _) :: _, h, q => by
    obtain ⟨h1, h2, h3⟩ := h
    subst h1
    simp only [lk_1, lk_2] at q
    cases c : sEq z x with
    | true => rw [c] at q; cases q
    | false =>
      rw [c] at q
      rw [List.any_cons, KR.none_ h3 q, decide_eq_false (sEq_ne c)]
      rfl
  | [], _ :: _, h, _ => h.elim
  | _ :: _, [], h, _ => h.elim
theorem KR.stored {n : Nat} {x : Str} {v : AV} {u : Value} {fs : Lc} {es : List (Str × Value)} (h : KR n ρ fs es) (hn : lk fs x = none) (hv : VR n ρ v u) : KR n ρ (fs ++ [(x, v)]) (PySem.stored es x u) := by
  unfold PySem.stored
  rw [if_neg (by rw [h.none_ hn]; exact Bool.false_ne_true)]
  exact h.app hv
theorem KS.unitQ {x : Fl × Lc × AS} {Q : Flow → Shared → Prop} (k : KS prog w sc h₀ fs L σ ρ news s x Q E) (hx : ∀ v, x.1 ≠ .ret v) : KS prog w sc h₀ fs L σ ρ news s x (fun _ => Q .next) E := by
  intro m' ρ' news' s' S' l' N' M'
  have := k m' ρ' news' s' S' l' N' M'
  obtain ⟨x1, x2, x3⟩ := x
  cases x1 with
  | next => exact this
  | ret v => exact absurd rfl (hx v)
  | exc => exact this
theorem asgs_noret {r : Rc} : ∀ {ts : List Expr} {vs : List AV} {lc : Lc} {σ : AS} {x : Fl × Lc × AS}, asgs T r fe ts vs lc σ = some x → ∀ v, x.1 ≠ .ret v
  | [], [], _, _, _, h, v => by cases h; intro e; cases e
  | t :: ts, u :: vs, lc, σ, x, h, v => by
    rw [asgs_2] at h
    split at h
    · exact asgs_noret h v
    · intro e
      obtain ⟨x1, x2, x3⟩ := x
      dsimp only at e
      subst e
      exact asg_nr h
  | [], _ :: _, _, _, _, h, _ => nomatch h
  | _ :: _, [], _, _, _, h, _ => nomatch h
theorem raise_sound {σ₀ : AS} {ρ₀ : Nat → Addr} {news₀ : List (Addr × Obj)} {i d : Nat} {F : Lc} (S : St prog w sc h₀ fs L m σ ρ news s) (N : Nx fs σ₀ ρ₀ news₀ σ ρ news) (hi : σ.get i = some (.exc (some d))) (hd : σ.get d = some (.dict F)) (li : σ₀.n ≤ i) (ld : σ₀.n ≤ d)
    (hw : isWord (lk F (Str.ofString "word")) = true) :
    ∃ oe t, s.heap.get? (ρ i) = some { rawExc 70 t with dict := some oe } ∧ ∃ news', St prog w sc h₀ fs L m (dead σ i d) ρ news' s ∧ Nx fs σ₀ ρ₀ news₀ (dead σ i d) ρ news' ∧ (∀ p ∈ news₀, p.1 ≠ ρ d) ∧
      ∃ vs es k t', Ex h₀ fs L (some L) (dead σ i d) ρ news' s.heap (.ref (ρ i)) (ρ i) (ρ d) { rawExc 70 t with dict := some oe } vs es k t' := by
  obtain ⟨o, m1, m2, _, t, m4⟩ := S.get hi
  obtain ⟨o2, n1, n2, es, k, n3, n4⟩ := S.get hd
  subst m4 n3
  have ne : i ≠ d := fun e => by rw [e, hd] at hi; cases hi
  have sub : ∀ j a, (dead σ i d).get j = some a → σ.get j = some a ∧ j ≠ i ∧ j ≠ d := fun j a h => by
    rw [dead_get] at h
    split at h
    · cases h
    · rename_i hn; rw [not_or] at hn; exact ⟨h, hn.1, hn.2⟩
  have sub' : ∀ j, Lv (dead σ i d) j → Lv σ j ∧ j ≠ i ∧ j ≠ d := fun j ⟨a, h⟩ => ⟨⟨a, (sub j a h).1⟩, (sub j a h).2⟩
  have fresh : ∀ p ∈ news₀, p.1 ≠ ρ i := N.fresh i li ⟨_, hi⟩
  have nei : ∀ j, Lv σ j → j ≠ i → ρ j ≠ ρ i := fun j hj hne e => hne (S.sy.inj j i hj ⟨_, hi⟩ e)
  have ned : ∀ j, Lv σ j → j ≠ d → ρ j ≠ ρ d := fun j hj hne e => hne (S.sy.inj j d hj ⟨_, hd⟩ e)
  have fsi : ∀ q ∈ fs, q.1 ≠ ρ i := fun q hq e => S.sy.sep q hq i ⟨_, hi⟩ e.symm
  have hw' : ∃ t', getL "word" es = some (some (.str "constraint_error" t')) := by
    unfold isWord at hw
    split at hw
    · rename_i v hv
      split at hw
      · rename_i x
        have hx := sEq_iff.mp hw
        subst hx
        obtain ⟨u, g1, t', g2⟩ := FR.find n4 hv
        exact ⟨t', by rw [← g2]; exact g1⟩
      · cases hw
    · cases hw
  obtain ⟨t', hw'⟩ := hw'
  have old := S.nw _ m1
  refine ⟨ρ d, t, m2, cut (ρ i) news, ⟨S.fr, fun p hp => S.nw p (mem_cut.mp hp).1, fun j a h => ?_, fun j k hj hk => S.sy.inj j k (sub' j hj).1 (sub' k hk).1, cut_nd S.sy.nd, fun q hq => ?_, fun q hq j hj => S.sy.sep q hq j (sub' j hj).1⟩,
    ⟨N.le, N.ext, fun j hj h => N.lv j hj (sub' j h).1, fun j h1 h2 => N.fresh j h1 (sub' j h2).1, fun p hp h1 h2 => mem_cut.mpr ⟨N.keep p hp h1 h2, fresh p hp⟩, fun p hp => ?_⟩, N.fresh d ld ⟨_, hd⟩,
    _, es, k, t', { v := rfl, at_ := m2, cls := rfl, dict := rfl, data := rfl, old := old.2.2, out := fun p hp => (mem_cut.mp hp).2, notL := old.2.1, tr := .inl rfl, mem := mem_cut.mpr ⟨n1, ned i ⟨_, hi⟩ ne |>.symm⟩, own := fun j hj => ned j (sub' j hj).1 (sub' j hj).2.2, fr := fun q hq e => S.sy.sep q hq d ⟨_, hd⟩ e.symm, word := hw' }⟩
  · obtain ⟨g1, g2, g3⟩ := sub j a h
    obtain ⟨o, e1, e2⟩ := S.sy.own j a g1
    exact ⟨o, mem_cut.mpr ⟨e1, nei j ⟨_, g1⟩ g2⟩, e2⟩
  · obtain ⟨o, e1, e2⟩ := S.sy.frs q hq
    exact ⟨o, mem_cut.mpr ⟨e1, fsi q hq⟩, e2⟩
  · obtain ⟨o, e1⟩ := N.addr p hp
    exact ⟨o, mem_cut.mpr ⟨e1, fresh p hp⟩⟩
theorem ex_asg (G : Glb T K p loose mean mg mb h₀) {r : Rc} {n : Nat} (H : Snd prog w sc h₀ r n) {t e : Expr} {pos : Pos} {x : Fl × Lc × AS} {Q : Flow → Shared → Prop} (h : exAsg T r fe t e lc σ = some x) (hs : isCmp e = false)
    (ax : AX A (envX cn fe.sc L a ccd cl) outer L fs n) (C : Cf prog w sc h₀ fs L m fe cl lc σ ρ news s) (k : KS prog w sc h₀ fs L σ ρ news s x Q E) : wpAny (model prog w) A (exec (.Assign [t] e pos) (envX cn fe.sc L a ccd cl)) Q E s := by
  cases t with
  | Name x0 p0 =>
    have h : gx lc _ _ = some x := h
    obtain ⟨z, hz, _⟩ := gx_some h
    refine wpAny_Assign_Name (H.ev _ _ _ _ _ hz _ _ _ _ _ _ _ _ _ _ _ _ _ _ ax C (KS.bind h hz C k fun v hf ρ₁ news₁ s₁ C₁ N M b hb k' => ?_)) (swaps_eq hs)
    obtain ⟨lc', σ', hst, rfl⟩ := nx_some hf
    exact st1_sound hst ax C₁ hb (next_of Q k' rfl)
  | Attribute o0 a0 p0 =>
    have h : gx lc _ _ = some x := h
    obtain ⟨z, hz, _⟩ := gx_some h
    refine plainObj_wpAny_Assign_Attribute (H.ev _ _ _ _ _ hz _ _ _ _ _ _ _ _ _ _ _ _ _ _ ax C (KS.bind h hz C k fun v hf ρ₁ news₁ s₁ C₁ N M b hb k' => ?_)) (swaps_eq hs)
    obtain ⟨y, hy, _⟩ := gx_some hf
    refine H.ev _ _ _ _ _ hy _ _ _ _ _ _ _ _ _ _ _ _ _ _ ax C₁ (KS.bind hf hy C₁ k' fun ov hg ρ₂ news₂ s₂ C₂ N' M' b' hb' k'' => ?_)
    obtain ⟨σ', hst, rfl⟩ := nx1_some hg
    exact setF_sound G hst C₂.st hb' (N'.vr hb) fun ρ3 news3 s3 S3 X3 M3 => k'' m ρ3 news3 _ S3 (C₂.lc.mono X3.le X3.ext) X3 M3
  | Tuple ts0 k0 p0 =>
    unfold exAsg at h
    dsimp only at h
    split at h
    · rename_i ns0 hsw
      split at h
      · obtain ⟨hpl, h⟩ := cond_some h
        obtain ⟨z, hz, _⟩ := gx_some h
        refine Assign_Tuple (H.ev _ _ _ _ _ hz _ _ _ _ _ _ _ _ _ _ _ _ _ _ ax C (KS.bind h hz C k fun v hf ρ₁ news₁ s₁ C₁ N M b hb k' => ?_)) (sole_eq hs) (swp_eq hsw)
        split at hf
        · rename_i vs hq
          obtain ⟨hl, hf⟩ := cond_some hf
          obtain ⟨t, its, rfl, I, R⟩ := seqOf_sound hq C₁.st hb
          have hl' := R.len
          have hl2 := Nat.eq_of_beq_eq_true hl
          refine assign_Tuple_tuple ax.hand I (by rw [each_len, hl2, ← hl', Array.length_toList]) (each_star hpl) fun h' he => ?_
          exact asgs_sound G H hf hpl ax ⟨C₁.st.extBut he, C₁.lc, C₁.cl⟩ R (KS.move k' .refl ⟨rfl, rfl, rfl⟩ |>.unitQ (asgs_noret hf))
        · cases hf
      · rename_i ns
        obtain ⟨z, hz, _⟩ := gx_some h
        refine Assign_Tuple_swapped (H.ev _ _ _ _ _ hz _ _ _ _ _ _ _ _ _ _ _ _ _ _ ax C (KS.bind h hz C k fun v hf ρ₁ news₁ s₁ C₁ N M b hb k' => ?_)) (sole_eq hs) (swp_eq hsw)
        split at hf
        · rename_i vs hq
          obtain ⟨hl, hf⟩ := cond_some hf
          obtain ⟨lc', σ', hst, rfl⟩ := nx_some hf
          obtain ⟨t, its, rfl, I, R⟩ := seqOf_sound hq C₁.st hb
          have hl' := R.len
          have hl2 := Nat.eq_of_beq_eq_true hl
          have hn : ns.length = its.size := by rw [hl2, ← hl', Array.length_toList]
          rw [hn]
          refine unpackItems_tuple ax.hand I fun h' he => ?_
          exact stN_sound hst ax ⟨C₁.st.extBut he, C₁.lc, C₁.cl⟩ (LR.revA R trivial) fun m2 ρ2 news2 s2 S2 l2 N2 M2 => k' m2 ρ2 news2 s2 S2 l2 N2 M2
        · cases hf
    · cases h
  | Subscript o0 i0 p0 =>
    have h : gx lc _ _ = some x := h
    obtain ⟨z, hz, _⟩ := gx_some h
    refine wpAny_Assign_Subscript (H.ev _ _ _ _ _ hz _ _ _ _ _ _ _ _ _ _ _ _ _ _ ax C (KS.bind h hz C k fun v hf ρ₁ news₁ s₁ C₁ N M b hb k' => ?_)) (swaps_eq hs)
    obtain ⟨y, hy, _⟩ := gx_some hf
    refine H.ev _ _ _ _ _ hy _ _ _ _ _ _ _ _ _ _ _ _ _ _ ax C₁ (KS.bind hf hy C₁ k' fun ov hg ρ₂ news₂ s₂ C₂ N' M' b' hb' k'' => ?_)
    obtain ⟨y3, hy3, _⟩ := gx_some hg
    refine H.ev _ _ _ _ _ hy3 _ _ _ _ _ _ _ _ _ _ _ _ _ _ ax C₂ (KS.bind hg hy3 C₂ k'' fun iv hg3 ρ₃ news₃ s₃ C₃ N3 M3 b3 hb3 k3 => ?_)
    obtain ⟨σ', hst, rfl⟩ := nx1_some hg3
    have hov := N3.vr hb'
    have hvv := N3.vr (N'.vr hb)
    unfold setI at hst
    split at hst
    · split at hst
      · split at hst
        · rename_i F hgt
          have hgt := dctAt_get hgt
          obtain ⟨hle, hst⟩ := cond_some hst
          split at hst
          · rename_i hnone
            cases hst
            obtain ⟨t, rfl⟩ := hb3
            obtain ⟨hin, rfl⟩ := hov
            obtain ⟨o, m1, m2, kvs, m3, m4⟩ := C₃.st.get hgt
            obtain ⟨g, U, Ch⟩ := updF_ex m1 C₃.st.sy.nd
            have hlen : kvs.length = F.length := m4.len
            have := Nat.le_of_ble_eq_true hle
            refine kda_set C₃.st.fr C₃.st.nw U m3 (strKind_is _ _ _ _) (by rw [sizeLine_eq]; omega) fun h' o' F' N'' hd' => ?_
            obtain ⟨S', X'⟩ := C₃.st.put ⟨_, hgt⟩ (Ch o') F' N'' (ao := .dct (F ++ [(_, v)])) (s' := { s₃ with heap := h', toks := s₃.toks + 1 }) ⟨_, hd', m4.stored hnone hvv⟩ rfl
            exact k3 m ρ₃ _ _ S' (C₃.lc.mono X'.le X'.ext) X' ⟨rfl, rfl, rfl⟩
          · cases hst
        · cases hst
      · cases hst
    · cases hst
  | _ => cases h
theorem ex_aug (G : Glb T K p loose mean mg mb h₀) {r : Rc} {n : Nat} (H : Snd prog w sc h₀ r n) {t e : Expr} {op : Operator} {pos : Pos} {x : Fl × Lc × AS} {Q : Flow → Shared → Prop} (h : exAug T r fe t op e lc σ = some x)
    (ax : AX A (envX cn fe.sc L a ccd cl) outer L fs n) (C : Cf prog w sc h₀ fs L m fe cl lc σ ρ news s) (k : KS prog w sc h₀ fs L σ ρ news s x Q E) : wpAny (model prog w) A (exec (.AugAssign t op e pos) (envX cn fe.sc L a ccd cl)) Q E s := by
  have hk : fe.sc.kind = .function := ax.kind
  cases t with
  | Name x0 p0 =>
    have h : cond (isLoc (lk fe.sc.names x0)) _ .none = some x := h
    obtain ⟨hkd, h⟩ := cond_some h
    have hkd := isLoc_eq hkd
    split at h
    · rename_i u hu
      obtain ⟨hint, h⟩ := cond_some h
      obtain ⟨z, hz, _⟩ := gx_some h
      obtain ⟨uv, e1, e2⟩ := C.lc _ _ hu
      refine wpAny_AugAssign_Name (wpAny_loadName_local hk (by rw [kindOf_env]; exact hkd) C.st.fr.ns e1 ?_)
      refine H.ev _ _ _ _ _ hz _ _ _ _ _ _ _ _ _ _ _ _ _ _ ax C (KS.bind h hz C k fun v hf ρ₁ news₁ s₁ C₁ N M b hb k' => ?_)
      split at hf
      · rename_i z2 hb2
        obtain ⟨lc', σ', hst, rfl⟩ := nx_some hf
        refine inp_sound (sc := sc) hb2 hint (N.vr e2) hb fun rv s' hr hh hM => ?_
        exact st1_sound hst ax ⟨C₁.st.of_heap hh, C₁.lc, C₁.cl⟩ hr fun m' ρ' news' s2 S' l' N' M' => k' m' ρ' news' s2 S' l' N' (hM.trans M')
      · cases hf
    · cases h
  | Attribute o0 a0 p0 =>
    have h : gx lc _ _ = some x := h
    obtain ⟨z, hz, _⟩ := gx_some h
    refine wpAny_AugAssign_AttributeAny (H.ev _ _ _ _ _ hz _ _ _ _ _ _ _ _ _ _ _ _ _ _ ax C (KS.bind h hz C k fun ov hf ρ₁ news₁ s₁ C₁ N M b hb k' => ?_))
    split at hf
    · rename_i u hu
      refine getF_sound G hu C₁.st hb fun uv g => ?_
      obtain ⟨hint, hf⟩ := cond_some hf
      obtain ⟨y, hy, _⟩ := gx_some hf
      have C₁' : Cf prog w sc h₀ fs L m fe cl lc z.2 ρ₁ news₁ { s₁ with toks := s₁.toks + 1 } := ⟨C₁.st.of_heap rfl, C₁.lc, C₁.cl⟩
      refine H.ev _ _ _ _ _ hy _ _ _ _ _ _ _ _ _ _ _ _ _ _ ax C₁' (KS.bind hf hy C₁' (k'.move .refl ⟨rfl, rfl, rfl⟩) fun v hg ρ₂ news₂ s₂ C₂ N' M' b' hb' k'' => ?_)
      split at hg
      · rename_i z2 hb2
        obtain ⟨σ', hst, rfl⟩ := nx1_some hg
        refine inp_sound (sc := sc) hb2 hint (N'.vr g) hb' fun rv s' hr hh hM => ?_
        exact setF_sound G hst (C₂.st.of_heap hh) (N'.vr hb) hr fun ρ3 news3 s3 S3 X3 M3 => k'' m ρ3 news3 _ S3 (C₂.lc.mono X3.le X3.ext) X3 (hM.trans M3)
      · cases hg
    · cases hf
  | _ => cases h
theorem ex_raise (G : Glb T K p loose mean mg mb h₀) {r : Rc} {n : Nat} (H : Snd prog w sc h₀ r n) {e : Expr} {pos : Pos} {x : Fl × Lc × AS} {Q : Flow → Shared → Prop} (h : gx lc (r.ev fe e lc σ) (fun v σ' => exRaise σ.n v lc σ') = some x)
    (ax : AX A (envX cn fe.sc L a ccd cl) outer L fs n) (C : Cf prog w sc h₀ fs L m fe cl lc σ ρ news s) (k : KS prog w sc h₀ fs L σ ρ news s x Q E) : wpAny (model prog w) A (exec (.Raise (some e) none pos) (envX cn fe.sc L a ccd cl)) Q E s := by
  obtain ⟨z, hz, hgo⟩ := gx_some h
  rw [arm_exec_Raise]
  refine wpAny_bind (wpAny_standAt (G.xs.raise ax.hand ?_))
  show wpAny _ _ (do let v ← eval e (envX cn fe.sc L a ccd cl); standAt pos; pure v) _ _ _
  refine wpAny_bind (H.ev _ _ _ _ _ hz _ _ _ _ _ _ _ _ _ _ _ _ _ _ ax C ?_)
  intro ρ' news' s' S' N' M'
  cases z1 : z.1 with
  | none =>
    rw [z1] at hgo
    intro ev e d oe vs es kk t X hf
    have := k m ρ' news' s'
    rw [hgo] at this
    exact this S' (C.lc.mono N'.le N'.ext) N' M' ev e d oe vs es kk t X hf
  | some v =>
    rw [z1] at hgo
    dsimp only at hgo ⊢
    intro vv hv
    refine wpAny_bind (wpAny_standAt (wpAny_pure ?_))
    unfold exRaise at hgo
    split at hgo
    · rename_i i
      split at hgo
      · rename_i d0 hi
        split at hgo
        · rename_i d
          split at hgo
          · rename_i F hd
            obtain ⟨hc, hgo⟩ := cond_some hgo
            rw [Bool.and_eq_true, Bool.and_eq_true] at hc
            cases hgo
            obtain ⟨dd, t, g1, news2, S2, N2, fr2, vs, es, kk, t', X2⟩ := raise_sound S' N' hi (dictAt_get hd) (Nat.le_of_ble_eq_true hc.1.1) (Nat.le_of_ble_eq_true hc.1.2) hc.2
            obtain ⟨_, rfl⟩ := hv
            exact ⟨ρ' i, t, some dd, rfl, G.X.keeps S'.fr.keep, g1, k m ρ' news2 s' S2 (C.lc.mono N2.le N2.ext) N2 M' _ _ _ _ _ _ _ _ X2 fr2⟩
          · cases hgo
        · cases hgo
      · cases hgo
    · cases hgo
theorem bmp_sub {st : Stmt} (S : St prog w sc h₀ fs L m σ ρ news s) : St prog w sc h₀ fs L m (bmp T st σ) ρ news s ∧ Nx fs σ ρ news (bmp T st σ) ρ news := by
  unfold bmp
  split
  · rename_i l hl
    rw [wn_eq]
    cases hb : Nat.blt σ.n (T.bump l σ.n) with
    | false => exact ⟨S, .refl⟩
    | true =>
      rw [cond_true]
      cases hk : keysLt σ.n σ.o with
      | false => exact ⟨S, .refl⟩
      | true =>
        have hle : σ.n ≤ T.bump l σ.n := Nat.le_of_lt (Nat.le_of_ble_eq_true hb)
        exact S.sub (τ := ⟨σ.o, T.bump l σ.n⟩) hle fun i a h => have g : fnd σ.o i = some a := get_fnd (σ := ⟨σ.o, T.bump l σ.n⟩) h; fnd_get g (keysLt_lt hk g)
  · exact ⟨S, .refl⟩
theorem ex_for (G : Glb T K p loose mean mg mb h₀) {r : Rc} {n : Nat} (H : Snd prog w sc h₀ r n) {t it : Expr} {body : List Stmt} {pos : Pos} {x : Fl × Lc × AS} {Q : Flow → Shared → Prop} (h : exFor T r fe t it body pos.line lc σ = some x) (hs : isSet it = false)
    (ax : AX A (envX cn fe.sc L a ccd cl) outer L fs n) (C : Cf prog w sc h₀ fs L m fe cl lc σ ρ news s) (k : KS prog w sc h₀ fs L σ ρ news s x Q E) : wpAny (model prog w) A (exec (.For t it body [] pos) (envX cn fe.sc L a ccd cl)) Q E s := by
  unfold exFor at h
  obtain ⟨z, hz, _⟩ := gx_some h
  refine wpAny_For (H.ev _ _ _ _ _ hz _ _ _ _ _ _ _ _ _ _ _ _ _ _ ax C (KS.bind h hz C k fun v hf ρ₁ news₁ s₁ C₁ N M b hb k' => ?_)) (fun x => by cases it <;> first | rfl | cases hs)
  rw [wn_eq] at hf
  split at hf
  · rename_i τ hi
    refine iter_sound hi C₁.st hb fun ρ₂ news₂ s₂ S₂ N₂ M₂ hl => ?_
    exact for_sound G H hf ax (C₁.next S₂ N₂) N₂ M₂ hl.lt (Nat.le_refl _) k'
  · cases hf
theorem ex1_sound (G : Glb T K p loose mean mg mb h₀) {n : Nat} (IH : ∀ i, i ≤ n → Snd prog w sc h₀ (run T i) i) : SEx prog w sc h₀ (run T (n + 1)) (n + 1) := by
  intro fe st lc σ x h A cn a ccd cl outer fs L m ρ news s Q E ax' C k
  have ax := ax'.le (Nat.le_succ n)
  have H := IH n (Nat.le_refl n)
  have h : ex1 T (run T n) fe st lc (bmp T st σ) = some x := h
  obtain ⟨Sb, Nb⟩ := bmp_sub (T := T) (st := st) C.st
  replace k := k.move Nb (Sm.rfl s)
  replace C := C.next Sb Nb
  generalize bmp T st σ = σb at h k C
  clear Sb Nb
  cases st with
  | Expr e0 p0 =>
    have h : cond (isCmp e0) .none (gx lc ((run T n).ev fe e0 lc σb) fun _ σ => some (.next, lc, σ)) = some x := h
    obtain ⟨hs, h⟩ := cond_none h
    obtain ⟨z, hz, _⟩ := gx_some h
    refine wpAny_Expr_any (H.ev _ _ _ _ _ hz _ _ _ _ _ _ _ _ _ _ _ _ _ _ ax C (KS.bind h hz C k fun v hf ρ₁ news₁ s₁ C₁ N M b hb k' => ?_)) (inter_eq ax.kind) (swaps_eq hs)
    cases hf
    exact k' m ρ₁ news₁ s₁ C₁.st C₁.lc .refl (Sm.rfl _)
  | Return eo p0 =>
    cases eo with
    | none =>
      cases h
      exact wpAny_Return_none (k m ρ news s C.st C.lc .refl (Sm.rfl _) _ rfl)
    | some e1 =>
      have h : gx lc ((run T n).ev fe e1 lc σb) (fun v σ => some (.ret v, lc, σ)) = some x := h
      obtain ⟨z, hz, _⟩ := gx_some h
      refine wpAny_Return_some (H.ev _ _ _ _ _ hz _ _ _ _ _ _ _ _ _ _ _ _ _ _ ax C (KS.bind h hz C k fun v hf ρ₁ news₁ s₁ C₁ N M b hb k' => ?_))
      cases hf
      exact k' m ρ₁ news₁ s₁ C₁.st C₁.lc .refl (Sm.rfl _) b hb
  | If t0 a0 b0 p0 =>
    have h : gx lc ((run T n).tr fe t0 lc σb) (fun c σ => cond c (exs (run T n) fe a0 lc σ) (exs (run T n) fe b0 lc σ)) = some x := h
    obtain ⟨z, hz, _⟩ := gx_some h
    refine wpAny_If (H.tr _ _ _ _ _ hz _ _ _ _ _ _ _ _ _ _ _ _ _ _ _ ax C (KS.bind h hz C k fun v hf ρ₁ news₁ s₁ C₁ N M b hb k' => ?_) (.inl rfl))
    cases hb
    cases v with
    | true => exact exs_sound H.ex hf ax C₁ k'
    | false => exact exs_sound H.ex hf ax C₁ k'
  | While t b els pos =>
    have h0 := h
    have h : cond els.isEmpty _ .none = some x := h
    obtain ⟨hels, h⟩ := cond_some h
    have he : els = [] := List.isEmpty_iff.mp hels
    subst he
    exact while_sound G IH (σ := σb) h0 ax' C k
  | For t0 it0 bd0 els0 p0 =>
    have h : cond (els0.isEmpty && !isSet it0) (exFor T (run T n) fe t0 it0 bd0 p0.line lc σb) .none = some x := h
    obtain ⟨hc, h⟩ := cond_some h
    rw [Bool.and_eq_true] at hc
    rw [List.isEmpty_iff.mp hc.1]
    exact ex_for G H h (by simpa using hc.2) ax C k
  | Assign ts0 e0 p0 =>
    have h : cond (isCmp e0) .none (match one ts0 with | some t => exAsg T (run T n) fe t e0 lc σb | .none => .none) = some x := h
    obtain ⟨hs, h⟩ := cond_none h
    split at h
    · rename_i t ht
      rw [one_eq ht]
      exact ex_asg G H h hs ax C k
    · cases h
  | AugAssign t0 op0 e0 p0 =>
    exact ex_aug G H h ax C k
  | Raise eo co p0 =>
    cases eo with
    | none => cases h
    | some e1 => cases co with
      | none => exact ex_raise G H h ax C k
      | some _ => cases h
  | _ => cases h
end
end Mine
end

section
open PySem PySem.W PyProof.Rows PySem.Calls
set_option Elab.async false
set_option maxRecDepth 100000
set_option linter.unusedVariables false
namespace Mine
theorem look_zip : ∀ {names : List Str} {vs : List Value}, names.Nodup → names.length = vs.length → names.filterMap (fun n => ((names.zip vs).lookup n).map (n, ·)) = names.zip vs
  | [], [], _, _ => rfl
  | n :: ns, v :: vs, nd, hl => by
    obtain ⟨h1, h2⟩ := List.nodup_cons.mp nd
    have e1 : ((n :: ns).zip (v :: vs)).lookup n = some v := by rw [List.zip_cons_cons]; simp [List.lookup]
    rw [List.filterMap_cons, e1]
    simp only [Option.map_some]
    rw [List.zip_cons_cons]
    congr 1
    have : ∀ l : List Str, n ∉ l → l.filterMap (fun x => (((n, v) :: ns.zip vs).lookup x).map (x, ·)) = l.filterMap (fun x => ((ns.zip vs).lookup x).map (x, ·)) := by
      intro l hl
      induction l with
      | nil => rfl
      | cons y l ih =>
        rw [List.mem_cons, not_or] at hl
        have e : (((n, v) :: ns.zip vs).lookup y) = (ns.zip vs).lookup y := by
          rw [List.lookup_cons]
          have : (y == n) = false := Bool.eq_false_iff.mpr fun q => hl.1 (beq_iff_eq.mp q).symm
          rw [this]
        rw [List.filterMap_cons, List.filterMap_cons, e, ih hl.2]
    exact (this ns h1).trans (look_zip h2 (by simpa using hl))
  | [], _ :: _, _, h => by cases h
  | _ :: _, [], _, h => by cases h
theorem isNoneV_eq {v : Value} (h : isNoneV v = true) : v = .none := by
  cases v <;> first | rfl | cases h
theorem plainAr_eq {a : Arguments} {ps : List Str} (h : plainAr a = some ps) : ∃ as, a = ⟨[], as, none, [], [], none, []⟩ ∧ ps = as.map (·.arg) := by
  obtain ⟨po, as, va, ko, kd, kw, df⟩ := a
  obtain ⟨hc, h⟩ := cond_some h
  cases h
  simp only [Bool.and_eq_true, List.isEmpty_iff, Option.isNone_iff_eq_none] at hc
  obtain ⟨⟨⟨⟨⟨rfl, rfl⟩, rfl⟩, rfl⟩, rfl⟩, rfl⟩ := hc
  exact ⟨_, rfl, rfl⟩
theorem bind_plain {fd : FuncData} {as : List Arg} {vs : List Value} (hp : fd.params = ⟨[], as, none, [], [], none, []⟩) (hd : fd.defaults = .none) (nd : (as.map (·.arg)).Nodup) (hl : (as.map (·.arg)).length = vs.length) :
    bindArgs fd ⟨vs, []⟩ = pure ((as.map (·.arg)).zip vs) := by
  unfold bindArgs
  rw [hp, hd]
  have h1 : ¬ (as.map (·.arg)).length < vs.length := by omega
  have look : ∀ n ∈ as.map (·.arg), (((as.map (·.arg)).zip vs).lookup n).isNone = false := by
    intro n hn
    have e := look_zip nd hl
    cases q : ((as.map (·.arg)).zip vs).lookup n with
    | some v => rfl
    | none =>
      exfalso
      have hlen := congrArg List.length e
      rw [List.length_zip, ← hl, Nat.min_self] at hlen
      have : ((as.map (·.arg)).filterMap (fun n => (((as.map (·.arg)).zip vs).lookup n).map (n, ·))).length < (as.map (·.arg)).length := by
        clear hlen e
        have gen : ∀ l : List Str, n ∈ l → (l.filterMap (fun n => (((as.map (·.arg)).zip vs).lookup n).map (n, ·))).length < l.length := by
          intro l
          induction l with
          | nil => intro h; cases h
          | cons y l ih =>
            intro h
            rw [List.filterMap_cons]
            by_cases e : n = y
            · subst e
              rw [q]
              simp only [Option.map_none, List.length_cons]
              exact Nat.lt_succ_of_le (List.length_filterMap_le _ _)
            · have h' : n ∈ l := by
                rcases List.mem_cons.mp h with h | h
                · exact absurd h e
                · exact h
              have := ih h'
              split <;> simp only [List.length_cons] <;> omega
        exact gen _ hn
      omega
  have hm : ((as.map (·.arg)).filter fun n => (((as.map (·.arg)).zip vs).lookup n).isNone) = [] := by
    rw [List.filter_eq_nil_iff]
    intro n hn
    rw [look n hn]; exact Bool.false_ne_true
  have hs : seqItems? .none = pure none := rfl
  rw [hs]
  have h2 : ¬ as.length < vs.length := by rw [List.length_map] at h1; exact h1
  have h3 : List.take as.length (as.map (·.arg)) = as.map (·.arg) := List.take_of_length_le (by rw [List.length_map]; exact Nat.le_refl _)
  have h4 := look_zip nd hl
  rw [List.filterMap_map] at h4
  simp [h2, h3, hm, h4]
theorem lookup_mem {α : Type} {x : Str} {v : α} : ∀ {l : List (Str × α)}, (l.map (·.1)).Nodup → (x, v) ∈ l → l.lookup x = some v
  | [], _, h => nomatch h
  | (y, u) :: l, nd, h => by
    rw [List.map_cons, List.nodup_cons] at nd
    rw [List.lookup_cons]
    rcases List.mem_cons.mp h with e | h2
    · cases e
      rw [show (x == x) = true from beq_self_eq_true x]
    · have : (x == y) = false := Bool.eq_false_iff.mpr fun q => nd.1 (by
        have e : x = y := beq_iff_eq.mp q
        subst e
        exact List.mem_map.mpr ⟨_, h2, rfl⟩)
      rw [this]
      exact lookup_mem nd.2 h2
theorem zipL_len : ∀ {ps : List Str} {as : List AV} {lc : Lc}, zipL ps as = some lc → ps.length = as.length
  | [], [], _, _ => rfl
  | x :: r, v :: t, lc, h => by
    rw [zipL_2] at h
    cases q : zipL r t with
    | none => rw [q] at h; cases h
    | some l => exact congrArg (· + 1) (zipL_len q)
  | [], _ :: _, _, h => nomatch h
  | _ :: _, [], _, h => nomatch h
theorem zipL_mem {n : Nat} {ρ : Nat → Addr} {x : Str} {a : AV} : ∀ {ps : List Str} {as : List AV} {vs : List Value} {lc : Lc}, zipL ps as = some lc → LR n ρ as vs → lk lc x = some a → ∃ v, (x, v) ∈ ps.zip vs ∧ VR n ρ a v
  | [], [], _, lc, h, _, e => by cases h; cases e
  | y :: r, v :: t, u :: us, lc, h, q, e => by
    rw [zipL_2] at h
    cases z : zipL r t with
    | none => rw [z] at h; cases h
    | some l =>
      rw [z] at h
      cases h
      simp only [lk_1, lk_2] at e
      cases c : sEq y x with
      | true =>
        rw [c] at e; cases e
        have hy : y = x := sEq_iff.mp c
        subst hy
        exact ⟨u, .head _, q.1⟩
      | false =>
        rw [c] at e
        obtain ⟨w, h1, h2⟩ := zipL_mem z q.2 e
        exact ⟨w, .tail _ h1, h2⟩
  | [], _ :: _, _, _, h, _, _ => nomatch h
  | _ :: _, [], _, _, h, _, _ => nomatch h
  | _ :: _, _ :: _, [], _, _, h, _ => h.elim
theorem zip_keys {ps : List Str} {vs : List Value} (h : ps.length = vs.length) : (ps.zip vs).map (·.1) = ps := List.map_fst_zip (by omega)
theorem allLoc_mem {ns : List (Str × NameKind)} {x : Str} : ∀ {ps : List Str}, allLoc ns ps = true → x ∈ ps → ns.lookup x = some .local
  | y :: r, h, hm => by
    rw [allLoc_2] at h
    obtain ⟨h1, h2⟩ : isLoc (lk ns y) = true ∧ allLoc ns r = true := by
      cases q : isLoc (lk ns y) with
      | true => rw [q] at h; exact ⟨rfl, h⟩
      | false => rw [q] at h; cases h
    rcases List.mem_cons.mp hm with e | hm
    · subst e
      rw [← lk_eq]
      unfold isLoc at h1
      split at h1
      · assumption
      · cases h1
    · exact allLoc_mem h2 hm
theorem noCells : ∀ {ns : List (Str × NameKind)}, cellNames ns = [] → ∀ x ∈ ns, x.2 ≠ .cell
  | [], _, _, h => nomatch h
  | (y, kd) :: r, h, x, hx => by
    cases kd with
    | cell => cases h
    | _ =>
      rcases List.mem_cons.mp hx with e | hx
      · subst e; intro z; cases z
      · exact noCells (ns := r) h x hx
section
variable {prog : Program} {w : World} {sc : List Int} {h₀ : Heap} {T : ITab} {K : Frag} {p : Program} {loose : List Str} {mean : ExcName → Option Value} {mg mb : Str → Option Value}
theorem lcr_binds {n : Nat} {ρ : Nat → Addr} {ps : List Str} {as : List AV} {us : List Value} {lc : Lc} (h : zipL ps as = some lc) (r : LR n ρ as us) (nd : ps.Nodup) : LcR n ρ lc (fun x => (ps.zip us).reverse.lookup x) := by
  intro x a e
  obtain ⟨v, h1, h2⟩ := zipL_mem h r e
  have hl : ps.length = us.length := (zipL_len h).trans r.len.symm
  refine ⟨v, lookup_mem ?_ (List.mem_reverse.mpr h1), h2⟩
  rw [List.map_reverse, zip_keys hl]
  exact List.pairwise_reverse.mpr (nd.imp fun h => Ne.symm h)
theorem fnChk_eq {fd : FuncData} {ps : List Str} (h : fnChk K fd ps = true) : fd.defaults = .none ∧ fd.kwdefaults = .none ∧ fd.closure = [] ∧ fd.globals = mainGlobals ∧ fd.builtins = builtinsNs ∧ fd.scope.isCoroutine = false ∧ fd.scope.isGenerator = false ∧ fd.scope.kind = .function ∧ codeIn K fd.code fd.qualname = true ∧ ps.Nodup ∧ allLoc fd.scope.names ps = true := by
  unfold fnChk at h
  simp only [Bool.and_eq_true] at h
  obtain ⟨⟨⟨⟨⟨⟨⟨⟨⟨⟨h1, h2⟩, h3⟩, h4⟩, h5⟩, h6⟩, h7⟩, h8⟩, h9⟩, h10⟩, h11⟩ := h
  refine ⟨isNoneV_eq h1, isNoneV_eq h2, List.isEmpty_iff.mp h3, Nat.eq_of_beq_eq_true h4, Nat.eq_of_beq_eq_true h5, by simpa using h6, by simpa using h7, ?_, h9, ndS_nodup h10, h11⟩
  unfold isFnK at h8
  split at h8
  · assumption
  · cases h8
theorem cellsFrom_none {k : Nat} {acc : List (Str × Addr)} : ∀ {ns : List (Str × NameKind)}, cellNames ns = [] → cellsFrom k ns acc = acc
  | [], _ => rfl
  | (y, kd) :: r, h => by
    cases kd with
    | cell => cases h
    | _ => exact cellsFrom_none (ns := r) h
theorem cellsFrom_one {c : Str} {k : Nat} {acc : List (Str × Addr)} : ∀ {ns : List (Str × NameKind)}, cellNames ns = [c] → cellsFrom k ns acc = (c, k) :: acc
  | [], h => by cases h
  | (y, kd) :: r, h => by
    cases kd with
    | cell =>
      have h' : y :: cellNames r = [c] := h
      rw [List.cons.injEq] at h'
      obtain ⟨rfl, h'⟩ := h'
      exact cellsFrom_none (ns := r) h'
    | _ => exact cellsFrom_one (ns := r) h
noncomputable def foldL : List (Str × Value) → (Str → Option Value) → Str → Option Value
  | [], m => m
  | (n, v) :: r, m => foldL r (fun y => if y = n then some v else m y)
theorem foldL_2 (n v r m) : foldL ((n, v) :: r) m = (foldL r (fun y => if y = n then some v else m y) : Str → Option Value) := rfl
theorem bindL_local {kd : Str → Option NameKind} : ∀ {b : List (Str × Value)} {m : Str → Option Value}, (∀ y ∈ b, kd y.1 = some .local) → bindL kd b m = foldL b m
  | [], _, _ => rfl
  | (n, v) :: r, m, h => by
    unfold bindL; rw [foldL_2]
    rw [if_pos (h (n, v) (.head _)), bindL_local fun y hy => h y (.tail _ hy)]
theorem bindC_local {kd : Str → Option NameKind} : ∀ {b : List (Str × Value)} {m : Str → Option Value}, (∀ y ∈ b, kd y.1 = some .local) → bindC kd b m = m
  | [], _, _ => rfl
  | (n, v) :: r, m, h => by
    unfold bindC
    rw [if_pos (h (n, v) (.head _)), bindC_local fun y hy => h y (.tail _ hy)]
theorem foldL_out {x : Str} : ∀ {b : List (Str × Value)} {m : Str → Option Value}, x ∉ b.map (·.1) → foldL b m x = m x
  | [], _, _ => rfl
  | (n, v) :: r, m, h => by
    rw [List.map_cons, List.mem_cons, not_or] at h
    rw [foldL_2]
    rw [foldL_out h.2, if_neg h.1]
theorem foldL_mem {x : Str} {v : Value} : ∀ {b : List (Str × Value)} {m : Str → Option Value}, (b.map (·.1)).Nodup → (x, v) ∈ b → foldL b m x = some v
  | [], _, _, h => nomatch h
  | (n, u) :: r, m, nd, h => by
    rw [List.map_cons, List.nodup_cons] at nd
    rw [foldL_2]
    rcases List.mem_cons.mp h with e | h2
    · cases e
      rw [foldL_out nd.1, if_pos rfl]
    · exact foldL_mem nd.2 h2
theorem lcr_fold {n : Nat} {ρ : Nat → Addr} {ps : List Str} {as : List AV} {us : List Value} {lc : Lc} (h : zipL ps as = some lc) (r : LR n ρ as us) (nd : ps.Nodup) : LcR n ρ lc (foldL (ps.zip us) fun _ => none) := by
  intro x a e
  obtain ⟨v, h1, h2⟩ := zipL_mem h r e
  have hl : ps.length = us.length := (zipL_len h).trans r.len.symm
  exact ⟨v, foldL_mem (by rw [zip_keys hl]; exact nd) h1, h2⟩
theorem funK_at {K : Frag} {f : Nat} {fd : FuncData} (h : funK K f = some fd) : ∃ oc od osl, K.lookup f = some ⟨oc, od, .func fd, osl⟩ := by
  unfold funK at h
  split at h
  · rename_i o ho
    split at h
    · rename_i fd' hd
      cases h
      obtain ⟨oc, od, oda, osl⟩ := o
      dsimp only at hd
      subst hd
      exact ⟨oc, od, osl, ho⟩
    · cases h
  · cases h
theorem stmtsOf_eq {fd : FuncData} {b : List Stmt} (h : stmtsOf fd = some b) : fd.body = .stmts b := by
  unfold stmtsOf at h
  split at h
  · cases h; assumption
  · cases h
theorem callF_open {T : ITab} {r : Rc} {f : Nat} {vs : List AV} {σ : AS} {x : Option AV × AS} (h : callF T r f vs σ = some x) : ∃ fd ps b lc, funK T.K f = some fd ∧ plainAr fd.params = some ps ∧ stmtsOf fd = some b ∧ fnChk T.K fd ps = true ∧ zipL ps vs = some lc ∧
    (match cellNames fd.scope.names with
      | [] => retOf (exs r ⟨fd.scope, []⟩ b lc σ)
      | c :: cs => match cs with
        | [] => retOf (exs r ⟨fd.scope, [(c, σ.n)]⟩ b lc (σ.new (.cell .none)))
        | _ :: _ => .none) = some x := by
  unfold callF at h
  split at h
  · split at h
    · split at h
      · obtain ⟨hc, h⟩ := cond_some h
        split at h
        · exact ⟨_, _, _, _, ‹_›, ‹_›, ‹_›, hc, ‹_›, h⟩
        · cases h
      · cases h
    · cases h
  · cases h
theorem callF_sound (G : Glb T K p loose mean mg mb h₀) {r : Rc} {n : Nat} (H : Snd prog w sc h₀ r n) {f : Nat} {as : List AV} {σ : AS} {x : Option AV × AS} (h : callF T r f as σ = some x)
    {A : Around} {env : Env} {outer : List Env} {fs : Fs} {L : Addr} {m : Str → Option Value} {ρ : Nat → Addr} {news : List (Addr × Obj)} {s : Shared} {us : List Value} {R : Result → Shared → Prop}
    (ax : AX A env outer L fs n) (hroom : A.depth + 1 + 4 * n + 20 < recursionLimit) (hun : A.units + 3 + 8 * n + 100 < cLine) (S : St prog w sc h₀ fs L m σ ρ news s) (hv : LR σ.n ρ as us) (k : Kc prog w sc h₀ fs L m VR σ ρ news s x (fun v s' => R (.ok (.ret v)) s') (fun e s' => R (.error e) s')) :
    codeAny (model prog w) A (.call (.ref f) ⟨us, []⟩) R s := by
  obtain ⟨fd, ps, b, lc, hfk, hpa, hb0, hc, hz, h⟩ := callF_open h
  rw [G.tk] at hfk hc
  obtain ⟨oc, od, osl, hk⟩ := funK_at hfk
  have hbo := stmtsOf_eq hb0
  clear hb0
  obtain ⟨c1, c2, c3, c4, c5, c6, c7, c8, c9, c10, c11⟩ := fnChk_eq hc
  obtain ⟨ar, hpe, rfl⟩ := plainAr_eq hpa
  have hl : (ar.map (·.arg)).length = us.length := (zipL_len hz).trans hv.len.symm
  have hbind := bind_plain (vs := us) hpe c1 c10 hl
  have X := G.X.keeps S.fr.keep
  have nolim := G.top.nolimit.keeps S.fr.keep
  have hloc : ∀ y ∈ (ar.map (·.arg)).zip us, fd.scope.names.lookup y.1 = some .local := fun y hy => allLoc_mem c11 (by
    have : y.1 ∈ ((ar.map (·.arg)).zip us).map (·.1) := List.mem_map_of_mem hy
    rw [zip_keys hl] at this
    exact this)
  have lcr := lcr_binds hz hv c10
  have fde : fd = fnOf fd.name fd.qualname fd.params b fd.scope .none .none fd.doc fd.pyModule fd.annotations fd.code fd.closureTuple := by
    obtain ⟨_, _, _, _, _, _, _, _, _, _, _, _, _, _, _⟩ := fd
    dsimp only at c1 c2 c3 c4 c5 hbo ⊢
    subst c1 c2 c3 c4 c5 hbo
    rfl
  -- what comes back from the body
  have room : A.depth < recursionLimit := rm_lt ax.room
  have back : ∀ {fe : FE} {cl : List (Str × Addr)} {σ₁ : AS} {ρ₁ : Nat → Addr} {news₁ : List (Addr × Obj)} {oL : Obj} {h₁ : Heap} {tk : Nat} {m' : Str → Option Value}, fe.sc = fd.scope → retOf (exs r fe b lc σ₁) = some x →
      St prog w sc h₀ ((L, m) :: fs) s.heap.objs.size m' σ₁ ρ₁ news₁ { s with heap := h₁, toks := tk } → Nx ((L, m) :: fs) σ ρ ((L, oL) :: news) σ₁ ρ₁ news₁ → LcR σ₁.n ρ₁ lc m' → CLR σ₁.n ρ₁ fe.cl cl →
      wpAny (model prog w) (A.deeper (envX fd.qualname fe.sc s.heap.objs.size f fd.code cl)) (execs b (envX fd.qualname fe.sc s.heap.objs.size f fd.code cl)) (fun fl s' => R (.ok (.ret (match fl with | .ret v => v | _ => .none))) s')
        (fun e s' => wpAny (model prog w) (A.deeper (envX fd.qualname fe.sc s.heap.objs.size f fd.code cl)) (leaving (envX fd.qualname fe.sc s.heap.objs.size f fd.code cl) e) (fun _ s'' => R (.error e) s'') (fun e' s'' => R (.error e') s'') s')
        { s with heap := h₁, toks := tk } := by
    intro fe cl σ₁ ρ₁ news₁ oL h₁ tk m' hsc hr S₁ N₁ l₁ cl₁
    have ax' : AX (A.deeper (envX fd.qualname fe.sc s.heap.objs.size f fd.code cl)) (envX fd.qualname fe.sc s.heap.objs.size f fd.code cl) (env :: outer) s.heap.objs.size ((L, m) :: fs) n :=
      ⟨Around.frames_deeper ax.fr, ⟨by rw [List.map_cons, List.map_cons, ax.frame, ax.out.1], fun e he => by
        rcases List.mem_cons.mp he with rfl | he
        · exact ax.kind
        · exact ax.out.2 e he⟩, rfl, by rw [show (envX fd.qualname fe.sc s.heap.objs.size f fd.code cl).scope = fe.sc from rfl, hsc]; exact c8, ax.hand, hroom, hun⟩
    unfold retOf at hr
    cases hy : exs r fe b lc σ₁ with
    | none => rw [hy] at hr; cases hr
    | some y =>
      rw [hy] at hr
      refine exs_sound H.ex hy ax' ⟨S₁, l₁, cl₁⟩ fun m2 ρ2 news2 s2 S2 l2 N2 M2 => ?_
      have NN := N₁.trans N2
      obtain ⟨S3, N3⟩ := S.leave S2 NN
      have M3 : Sm s s2 := (show Sm s { s with heap := h₁, toks := tk } from ⟨rfl, rfl, rfl⟩).trans M2
      obtain ⟨y1, y2, y3⟩ := y
      cases y1 with
      | next => cases hr; exact k ρ2 _ s2 S3 N3 M3 _ rfl
      | ret v => cases hr; exact fun u hu => k ρ2 _ s2 S3 N3 M3 u hu
      | exc =>
        cases hr
        intro ev e d oe vs es kk t X2 hf2
        refine leave_sound ax'.fr ax'.out ax'.frame ax'.kind S2 X2 fun h' news' oe' vs' S4 N4 X4 => ?_
        obtain ⟨S5, N5⟩ := S.leave S4 (NN.trans N4)
        exact k ρ2 _ _ S5 N5 (M3.trans ⟨rfl, rfl, rfl⟩) ev e d oe' vs' es kk t (Ex.leave (s := { s2 with heap := h' }) X4 S4) (fun q hq => N₁.old hf2 q (.tail _ hq))
  split at h
  · rename_i hcn
    refine codeAny_call_def (fd := fd) (body := b) (binds := (ar.map (·.arg)).zip us) room (X _ _ hk) rfl nolim (codeRec_of X c9) hbo (BindsTo.of_eq hbind) (noCells hcn) hloc (fun h₁ ns keep => ?_) c6 c7 c8
    obtain ⟨oL, gL, S₁⟩ := S.enter (s' := { s with heap := h₁, toks := s.toks + ((ar.map (·.arg)).zip us).length }) (Nat.le_refl _) ns keep rfl
    have ce : callEnv fd s.heap.objs.size f = envX fd.qualname fd.scope s.heap.objs.size f fd.code [] := by rw [fde]; rfl
    rw [ce]
    exact back (fe := ⟨fd.scope, []⟩) rfl h S₁ .refl lcr trivial
  · rename_i c cs hcn
    split at h
    case h_2 => cases h
    have hbe := hbo
    refine codeAny_call_function (fd := fd) (body := b) room (X _ _ hk) rfl c6 c7 hbo (codeRec_of X c9) (BindsTo.of_eq hbind _ _ _ _ ?_)
    rw [c3]
    refine wpAny_newFunctionEnv_cells c8 (fun y hy => .inl (hloc y hy)) fun env' he s' xx => ?_
    rw [c4, c5] at he
    subst he
    have hcf := cellsFrom_one (k := s.heap.objs.size + 1) (acc := []) hcn
    refine ⟨nolim.keeps xx.toInCall.keep, codeAny_func ?_⟩
    obtain ⟨h₁, tk, rfl, _⟩ := xx.done
    have keep := xx.toInCall.keep
    have ns := xx.toInCall.ns
    have ce : newEnv fd.scope s.heap.objs.size mainGlobals (cellsFrom (s.heap.objs.size + 1) fd.scope.names []) (fd.qualname ++ ".<locals>.") (some f) fd.code none builtinsNs = envX fd.qualname fd.scope s.heap.objs.size f fd.code [(c, s.heap.objs.size + 1)] := by rw [hcf]; rfl
    have hlk : (newEnv fd.scope s.heap.objs.size mainGlobals (cellsFrom (s.heap.objs.size + 1) fd.scope.names []) (fd.qualname ++ ".<locals>.") (some f) fd.code none builtinsNs).cells.lookup c = some (s.heap.objs.size + 1) := by
      rw [ce]; show List.lookup c [(c, s.heap.objs.size + 1)] = _; rw [List.lookup_cons, beq_self_eq_true]
    obtain ⟨oc', gc, dc⟩ := xx.cell c _ hlk
    have kof : ∀ y, (newEnv fd.scope s.heap.objs.size mainGlobals (cellsFrom (s.heap.objs.size + 1) fd.scope.names []) (fd.qualname ++ ".<locals>.") (some f) fd.code none builtinsNs).kindOf y = fd.scope.names.lookup y := fun _ => rfl
    rw [bindC_local (fun y hy => by rw [kof]; exact hloc y hy)] at dc
    rw [bindL_local (fun y hy => by rw [kof]; exact hloc y hy)] at ns
    obtain ⟨oL, gL, S₁⟩ := S.enter (s' := { s with heap := h₁, toks := tk }) (L' := s.heap.objs.size) (Nat.le_refl _) ns keep rfl
    have lt : ∀ q ∈ (L, oL) :: news, q.1 < s.heap.objs.size + 1 := fun q hq => by
      rcases List.mem_cons.mp hq with rfl | hq
      · exact Nat.lt_succ_of_lt (Heap.lt_size gL)
      · exact Nat.lt_succ_of_lt (Heap.lt_size (S.nw q hq).1)
    have nw : News h₀ s.heap.objs.size h₁ ((s.heap.objs.size + 1, oc') :: (L, oL) :: news) := fun q hq => by
      rcases List.mem_cons.mp hq with rfl | hq
      · exact ⟨gc, Nat.succ_ne_self _, none_above (Nat.le_succ_of_le S₁.fr.above)⟩
      · exact S₁.nw q hq
    obtain ⟨S₂, N₂⟩ := S₁.alloc (s' := { s with heap := h₁, toks := tk }) (ao := .cell .none) S₁.fr nw lt dc rfl
    have l0 := lcr_fold (ρ := ρ) (n := σ.n) hz hv c10
    rw [ce]
    exact back (fe := ⟨fd.scope, [(c, σ.n)]⟩) (cl := [(c, s.heap.objs.size + 1)]) rfl h S₂ N₂ (l0.mono N₂.le N₂.ext) ⟨rfl, Nat.lt_succ_self _, (upd_self _ _ _).symm, trivial⟩
end
end Mine
end

section
open PySem PySem.W PyProof.Rows PySem.Calls
set_option Elab.async false
set_option maxRecDepth 100000
set_option linter.unusedVariables false
namespace Mine
section
variable {prog : Program} {w : World} {sc : List Int} {h₀ : Heap} {T : ITab} {K : Frag} {p : Program} {loose : List Str} {mean : ExcName → Option Value} {mg mb : Str → Option Value}
variable {A : Around} {env : Env} {outer : List Env} {fs : Fs} {L : Addr} {m : Str → Option Value} {σ : AS} {ρ : Nat → Addr} {news : List (Addr × Obj)} {s : Shared} {Q E : Value → Shared → Prop}
theorem out_exc {L' : Addr} {m₂ : Str → Option Value} {oL : Obj} {σ₂ : AS} {ρ₂ : Nat → Addr} {news₂ : List (Addr × Obj)} {s₂ : Shared} {env' : Env} {n : Nat} {ev : Value} {e d : Addr} {oe : Obj} {vs : Array Value} {es : List DictEntry} {kk : Nat} {t : Tok}
    (S : St prog w sc h₀ fs L m σ ρ news s) (ax' : AX (A.deeper env') env' (env :: outer) L' ((L, m) :: fs) n) (S2 : St prog w sc h₀ ((L, m) :: fs) L' m₂ σ₂ ρ₂ news₂ s₂) (NN : Nx ((L, m) :: fs) σ ρ ((L, oL) :: news) σ₂ ρ₂ news₂) (M3 : Sm s s₂)
    (X2 : Ex h₀ ((L, m) :: fs) L' (some L') σ₂ ρ₂ news₂ s₂.heap ev e d oe vs es kk t) (hf : ∀ p ∈ news, p.1 ≠ d) (k : Kc prog w sc h₀ fs L m VR σ ρ news s (none, σ₂) Q E) :
    wpAny (model prog w) (A.deeper env') (leaving env' ev) (fun _ s'' => E ev s'') (fun e' s'' => E e' s'') s₂ := by
  refine leave_sound ax'.fr ax'.out ax'.frame ax'.kind S2 X2 fun h' news' oe' vs' S4 N4 X4 => ?_
  obtain ⟨S5, N5⟩ := S.leave S4 (NN.trans N4)
  exact k ρ₂ _ _ S5 N5 (M3.trans ⟨rfl, rfl, rfl⟩) ev e d oe' vs' es kk t (Ex.leave (s := { s₂ with heap := h' }) X4 S4) hf
theorem callC_sound (G : Glb T K p loose mean mg mb h₀) {r : Rc} {n : Nat} (H : Snd prog w sc h₀ r n) {i : Nat} {as : List AV} {us : List Value} {x : Option AV × AS} (h : callC r i as σ = some x)
    (ax' : AX A env outer L fs (n + 1)) (S : St prog w sc h₀ fs L m σ ρ news s) (hv : LR σ.n ρ as us) (k : Kc prog w sc h₀ fs L m VR σ ρ news s x Q E) : wpAny (model prog w) A (PySem.call (.ref (ρ i)) us) Q E s := by
  have ax := ax'.le (Nat.le_succ n)
  unfold callC at h
  split at h
  · rename_i ps body cs cl q c hi
    replace h := cond_some h
    obtain ⟨hc, h⟩ := h
    rw [Bool.and_eq_true] at hc
    obtain ⟨hvs, hck⟩ := hc
    have has := List.isEmpty_iff.mp hvs
    subst has
    cases us with
    | cons _ _ => exact hv.elim
    | nil =>
      split at h
      · rename_i qc hcd
        replace h := cond_some h
        obtain ⟨hqq, h⟩ := h
        have hqq := sEq_iff.mp hqq
        subst hqq
        obtain ⟨o, m1, m2, hcn, nm, pm, ct, doc, cl', rfl, hcl⟩ := S.get hi
        obtain ⟨oc, c1, c2, vs, tq, c3, c4⟩ := S.get hcd
        unfold clsChk at hck
        simp only [Bool.and_eq_true] at hck
        obtain ⟨⟨⟨⟨k1, k2⟩, k3⟩, k4⟩, k5⟩ := hck
        have nocell := noCell_mem k2
        have k3 : cs.isCoroutine = false := by simpa using k3
        have k4 : cs.isGenerator = false := by simpa using k4
        have k5 : cs.kind = .function := by
          unfold isFnK at k5
          split at k5
          · assumption
          · cases k5
        have hps : ∃ ar, ps = ⟨[], ar, none, [], [], none, []⟩ ∧ ar.map (·.arg) = [] := by
          split at k1
          · rename_i l hl
            obtain ⟨ar, e1, e2⟩ := plainAr_eq hl
            exact ⟨ar, e1, by rw [← e2]; exact List.isEmpty_iff.mp k1⟩
          · cases k1
        obtain ⟨ar, hpe, hara⟩ := hps
        have room : A.depth < recursionLimit := rm_lt ax.room
        have nolim := G.top.nolimit.keeps S.fr.keep
        have crec : s.heap.CodeRec (fnD nm qc ps body cs cl' pm (.ref (ρ c)) ct doc).code (fnD nm qc ps body cs cl' pm (.ref (ρ c)) ct doc).qualname := ⟨ρ c, oc, vs, tq, rfl, c2, c3, c4⟩
        have hbind : bindArgs (fnD nm qc ps body cs cl' pm (.ref (ρ c)) ct doc) ⟨[], []⟩ = pure [] := by
          have := bind_plain (fd := fnD nm qc ps body cs cl' pm (.ref (ρ c)) ct doc) (as := ar) (vs := []) hpe rfl (by rw [hara]; exact List.nodup_nil) (by rw [hara]; rfl)
          rw [this, hara]; rfl
        have axd : AX (A.deeper (envX qc cs s.heap.objs.size (ρ i) (.ref (ρ c)) cl')) (envX qc cs s.heap.objs.size (ρ i) (.ref (ρ c)) cl') (env :: outer) s.heap.objs.size ((L, m) :: fs) n :=
          ⟨Around.frames_deeper ax.fr, ⟨by rw [List.map_cons, List.map_cons, ax.frame, ax.out.1], fun e he => by
            rcases List.mem_cons.mp he with rfl | he
            · exact ax.kind
            · exact ax.out.2 e he⟩, rfl, k5, ax.hand, rm_dn (d := A.depth) ax'.room, un_dn (u := A.units) ax'.un⟩
        have entry : ∀ {h₁ : Heap}, h₁.Ns s.heap.objs.size (fun x => ([] : List (Str × Value)).reverse.lookup x) → Heap.SameBut s.heap.objs.size (s.heap.push { cls := .type "frame", data := .dict #[] }) h₁ →
            ∃ oL, Cf prog w sc h₀ ((L, m) :: fs) s.heap.objs.size (fun x => ([] : List (Str × Value)).reverse.lookup x) ⟨cs, cl⟩ cl' [] σ ρ ((L, oL) :: news) { s with heap := h₁ } ∧ h₁.NoLimit := fun ns hsb => by
          have keep : ∀ b o, s.heap.get? b = some o → _ = some o := fun b o hb => hsb.extBut b o (Nat.ne_of_lt (Heap.lt_size hb)) (Heap.get?_push_of_some _ hb)
          obtain ⟨oL, gL, S₁⟩ := S.enter (s' := { s with heap := _ }) (Nat.le_refl _) ns keep rfl
          exact ⟨oL, ⟨S₁, fun x a e => (nomatch e), hcl⟩, nolim.keeps keep⟩
        cases body with
        | stmts b =>
          replace h : retOf (exs r ⟨cs, cl⟩ b [] σ) = some x := h
          unfold retOf at h
          split at h
          · cases h
          · rename_i fl lc2 σ2 hy
            refine wpAny_call (codeAny_call_function (fd := fnD nm qc ps (.stmts b) cs cl' pm (.ref (ρ c)) ct doc) (body := b) room m2 rfl k3 k4 rfl crec (BindsTo.of_eq hbind _ _ _ _ ?_))
            refine wpAny_newFunctionEnv nocell (fun y hy => by cases hy) (fun h₁ ns hsb => ?_) k5
            obtain ⟨oL, C₁, nl⟩ := entry ns hsb
            refine ⟨nl, codeAny_func ?_⟩
            refine exs_sound H.ex hy axd C₁ fun m2 ρ2 news2 s2 S2 l2 N2 M2 => ?_
            obtain ⟨S3, N3⟩ := S.leave S2 N2
            cases fl with
            | next => cases h; exact k ρ2 _ s2 S3 N3 M2 _ rfl
            | ret v => cases h; exact fun u hu => k ρ2 _ s2 S3 N3 M2 u hu
            | exc =>
              cases h
              intro ev e d oe vs es kk t X2 hf2
              exact out_exc S axd S2 N2 M2 X2 (fun q hq => hf2 q (.tail _ hq)) k
        | expr e =>
          replace h : r.ev ⟨cs, cl⟩ e [] σ = some x := h
          refine wpAny_call (kla_callFunE (fd := fnD nm qc ps (.expr e) cs cl' pm (.ref (ρ c)) ct doc) (body := e) room m2 rfl k3 k4 rfl crec (BindsTo.of_eq hbind _ _ _ _ ?_))
          refine wpAny_newFunctionEnv nocell (fun y hy => by cases hy) (fun h₁ ns hsb => ?_) k5
          obtain ⟨oL, C₁, nl⟩ := entry ns hsb
          refine ⟨nl, kla_codeExpr ?_⟩
          refine H.ev _ _ _ _ _ h _ _ _ _ _ _ _ _ _ _ _ _ _ _ axd C₁ fun ρ2 news2 s2 S2 N2 M2 => ?_
          obtain ⟨S3, N3⟩ := S.leave S2 N2
          obtain ⟨x1, x2⟩ := x
          cases x1 with
          | some v => exact fun u hu => k ρ2 _ s2 S3 N3 M2 u hu
          | none =>
            intro ev e d oe vs es kk t X2 hf2
            exact out_exc S axd S2 N2 M2 X2 (fun q hq => hf2 q (.tail _ hq)) k
      · cases h
  · cases h
end
end Mine
end

section
open PySem PySem.W PyProof.Rows PySem.Calls
set_option Elab.async false
set_option maxRecDepth 100000
set_option linter.unusedVariables false
namespace Mine
section
variable {prog : Program} {w : World} {sc : List Int} {h₀ : Heap} {T : ITab} {K : Frag} {p : Program} {loose : List Str} {mean : ExcName → Option Value} {mg mb : Str → Option Value}
variable (prog w sc h₀ K) in
/-- what _law_haul does -/
noncomputable def HaulOk : Prop := ∀ (c l m' : Nat) (k : AV) (q : List (AV × Nat)) (t : Tok) (σ : AS) {A : Around} {env : Env} {outer : List Env} {fs : Fs} {L : Addr} {m : Str → Option Value} {ρ : Nat → Addr} {news : List (Addr × Obj)} {s : Shared} {Q E : Value → Shared → Prop},
  AX A env outer L fs 1 → St prog w sc h₀ fs L m σ ρ news s → σ.get c = some (.cart l ((k, m') :: q)) → σ.get l = some .opq → Kc prog w sc h₀ fs L m VR σ ρ news s (some k, σ.put c (.cart l q)) Q E → wpAny (model prog w) A (PySem.call (.ref 848) [.ref (ρ c), .int (Int.ofNat m') t]) Q E s
variable (prog w sc h₀) in
/-- what _law_word does -/
noncomputable def WordOk : Prop := ∀ {r : Rc} {n : Nat}, Snd prog w sc h₀ r n → ∀ (d : AV) (σ : AS) (y : Option AV × AS), isClo σ d = true → wordOf (r.ca d [] σ) = some y → ∀ {A : Around} {env : Env} {outer : List Env} {fs : Fs} {L : Addr} {m : Str → Option Value} {ρ : Nat → Addr} {news : List (Addr × Obj)} {s : Shared} {dv : Value} {Q E : Value → Shared → Prop},
  AX A env outer L fs (n + 1) → St prog w sc h₀ fs L m σ ρ news s → VR σ.n ρ d dv → Kc prog w sc h₀ fs L m VR σ ρ news s y Q E → wpAny (model prog w) A (PySem.call (.ref 883) [dv]) Q E s
theorem w_call (C : Addr) (vs : List Value) (kw : List (Str × Value)) : (Code.builtin "type.__call__" { pos := Value.ref C :: vs, kw := kw }).weight ≤ 1 := by
  have e : Code.isGuard (Code.builtin "type.__call__" { pos := Value.ref C :: vs, kw := kw }) = false := by
    show guardIds.contains "type.__call__" = false
    decide +kernel
  unfold Code.weight
  rw [e]
  exact Nat.le_refl _
theorem arg1_eq {vs : List AV} {a : AV} (h : arg1 vs = some a) : vs = [a] := by
  unfold arg1 at h
  split at h
  · cases h; rfl
  · cases h
theorem arg2_eq {vs : List AV} {a : AV × AV} (h : arg2 vs = some a) : vs = [a.1, a.2] := by
  unfold arg2 at h
  split at h
  · cases h; rfl
  · cases h
theorem LR.one {n : Nat} {ρ : Nat → Addr} {a : AV} {vs : List Value} (h : LR n ρ [a] vs) : ∃ v, vs = [v] ∧ VR n ρ a v := by
  rcases vs with _ | ⟨v, _ | ⟨_, _⟩⟩
  · exact h.elim
  · exact ⟨v, rfl, h.1⟩
  · exact h.2.elim
theorem LR.two {n : Nat} {ρ : Nat → Addr} {a b : AV} {vs : List Value} (h : LR n ρ [a, b] vs) : ∃ v u, vs = [v, u] ∧ VR n ρ a v ∧ VR n ρ b u := by
  rcases vs with _ | ⟨v, _ | ⟨u, _ | ⟨_, _⟩⟩⟩
  · exact h.elim
  · exact h.2.elim
  · exact ⟨v, u, rfl, h.1, h.2.1⟩
  · exact h.2.2.elim
section
variable {A : Around} {env : Env} {outer : List Env} {fs : Fs} {L : Addr} {m : Str → Option Value} {σ : AS} {ρ : Nat → Addr} {news : List (Addr × Obj)} {s : Shared} {Q E : Value → Shared → Prop}
theorem u_call (C : Addr) (vs : List Value) : (Code.builtin "type.__call__" { pos := Value.ref C :: vs, kw := [] }).cUnits ≤ 1 := Nat.le_of_eq rfl
theorem under_ax {n : Nat} {C : Addr} {vs : List Value} (ax : AX A env outer L fs (n + 1)) : AX (A.under (Code.builtin "type.__call__" { pos := Value.ref C :: vs, kw := [] })) env outer L fs n ∧ (A.under (Code.builtin "type.__call__" { pos := Value.ref C :: vs, kw := [] })).depth + 1 + 4 * n + 20 < recursionLimit ∧
    (A.under (Code.builtin "type.__call__" { pos := Value.ref C :: vs, kw := [] })).units + 3 + 8 * n + 100 < cLine := by
  have hw : Code.weight (Code.builtin "type.__call__" { pos := Value.ref C :: vs, kw := [] }) ≤ 1 := w_call _ _ _
  have hu := u_call C vs
  exact ⟨⟨by rw [← ax.fr]; rfl, ax.out, ax.frame, ax.kind, ax.hand, rm_w (d := A.depth) ax.room hw, un_w (u := A.units) ax.un (Nat.le_trans hu (by decide))⟩, rm_w1 (d := A.depth) ax.room hw, un_w3 (u := A.units) ax.un (Nat.le_trans hu (by decide))⟩
theorem back_none {x : Option AV × AS} {n : Nat} {i : Nat} {xa : Addr} {z : Option AV × AS} {σ' : AS} {ρ' : Nat → Addr} {news' : List (Addr × Obj)} {s' : Shared} {y : Rs AV}
    (h : bd y (fun v σ' => cond (isNone v) (pu (.id i) σ') none) = some x) (hz : y = some z) (hi : i < σ'.n) (hr : ρ' i = xa) (N : Nx fs σ ρ news σ' ρ' news') (M : Sm s s') (k : Kc prog w sc h₀ fs L m VR σ ρ news s x Q E) :
    Kc prog w sc h₀ fs L m VR σ' ρ' news' s' z (fun v s' => InitBack xa (fun r s' => match r with | .ok (.ret v) => Q v s' | .ok _ => False | .error e => E e s') (.ok (.ret v)) s') (fun e s' => InitBack xa (fun r s' => match r with | .ok (.ret v) => Q v s' | .ok _ => False | .error e => E e s') (.error e) s') := by
  refine Kc.bind (Rm := VR) h hz (k.move N M) fun v hfn ρ₁ news₁ s₁ S3 N3 M3 b hb k' => ?_
  obtain ⟨hnn, hfn⟩ := cond_some hfn
  cases hfn
  have hbn := isNone_is hb hnn
  subst hbn
  refine ⟨rfl, k'.done S3 (Sm.rfl _) ⟨Nat.lt_of_lt_of_le hi N3.le, ?_⟩⟩
  rw [N3.ext _ hi, hr]
theorem callG_sound (G : Glb T K p loose mean mg mb h₀) (HO : HaulOk prog w sc h₀) (WO : WordOk prog w sc h₀) {r : Rc} {n : Nat} (H : Snd prog w sc h₀ r n) {f : Nat} {as : List AV} {vs : List Value} {x : Option AV × AS} (h : callG T r f as σ = some x)
    (ax' : AX A env outer L fs (n + 1)) (S : St prog w sc h₀ fs L m σ ρ news s) (hv : LR σ.n ρ as vs) (k : Kc prog w sc h₀ fs L m VR σ ρ news s x Q E) : wpAny (model prog w) A (PySem.call (.ref f) vs) Q E s := by
  have ax := ax'.le (Nat.le_succ n)
  have hroom : A.depth + 1 + 4 * n + 20 < recursionLimit := rm_dn ax'.room
  have hun : A.units + 3 + 8 * n + 100 < cLine := un_dn ax'.un
  unfold callG at h
  cases q1 : Nat.beq f 848 with
  | true =>
    rw [q1, cond_true] at h
    have e1 := Nat.eq_of_beq_eq_true q1
    subst e1
    split at h
    · rename_i cv mv ha
      rw [arg2_eq ha] at hv
      obtain ⟨v, u, rfl, hc, hm⟩ := hv.two
      unfold haul at h
      split at h
      · rename_i c
        split at h
        · rename_i m2
          split at h
          · rename_i l q0 hg
            split at h
            · rename_i kk m' q
              replace h := cond_some h
              obtain ⟨hm2, h⟩ := h
              have hm2 := of_decide_eq_true hm2
              subst hm2
              split at h
              · rename_i hl
                obtain rfl := Option.some.inj h
                obtain ⟨_, rfl⟩ := hc
                obtain ⟨t, rfl⟩ := hm
                exact HO c l m' kk q t σ (ax'.le (by omega)) S hg hl k
              · cases h
            · cases h
          · cases h
        · cases h
      · cases h
    · cases h
  | false =>
    rw [q1, cond_false] at h
    cases q0 : Nat.beq f 883 with
    | true =>
      rw [q0, cond_true] at h
      have e1 := Nat.eq_of_beq_eq_true q0
      subst e1
      split at h
      · rename_i d hd
        rw [arg1_eq hd] at hv
        obtain ⟨v1, rfl, hc⟩ := hv.one
        replace h := cond_some h
        exact WO H d σ x h.1 h.2 ax' S hc k
      · cases h
    | false =>
    rw [q0, cond_false] at h
    cases q2 : Nat.beq f excClass with
    | true =>
      rw [q2, cond_true] at h
      have e2 : f = 70 := Nat.eq_of_beq_eq_true q2
      subst e2
      obtain ⟨z, hz, _⟩ := bd_some h
      have hl := hv.len
      have hsz : vs.length ≤ sizeLine := by
        obtain ⟨fd, ps, b, lc, hfk, hpa, hb0, hc, hzl, _⟩ := callF_open hz
        rw [hl, sizeLine_eq]
        have := zipL_len hzl
        rw [List.length_cons] at this
        have : ps.length ≤ 4 := G.xp fd ps (by rw [← G.tk]; exact hfk) hpa
        omega
      refine wpAny_call (G.xs.call (G.X.keeps S.fr.keep) hsz ?_)
      have ltL : L < s.heap.objs.size := S.fr.ns.lt
      have F1 := S.fr.push { cls := .type "tuple", data := .seq vs.toArray }
      have N1 := News.pushKeep S.nw { cls := .type "tuple", data := .seq vs.toArray }
      have F2 := F1.push (rawExc 70 s.heap.objs.size)
      have N2 := News.push F1 N1 (rawExc 70 s.heap.objs.size)
      rw [Heap.size_push] at N2
      obtain ⟨S1, X1⟩ := S.alloc (x := s.heap.objs.size + 1) (ao := .exc none) (s' := { s with heap := (s.heap.push { cls := .type "tuple", data := .seq vs.toArray }).push (rawExc 70 s.heap.objs.size) }) F2 N2 (fun q hq => Nat.lt_succ_of_lt (Heap.lt_size (S.nw q hq).1)) ⟨_, rfl⟩ rfl
      obtain ⟨axu, hru, huu⟩ := under_ax (C := 70) (vs := vs) ax'
      have hin : σ.n < (σ.new (.exc none)).n := Nat.lt_succ_self _
      exact callF_sound G H hz (us := .ref (s.heap.objs.size + 1) :: vs) axu hru huu S1 ⟨⟨hin, by rw [upd_self]⟩, X1.lr hv⟩ (back_none (n := n) h hz hin (upd_self _ _ _) X1 ⟨rfl, rfl, rfl⟩ k)
    | false =>
      rw [q2, cond_false] at h
      split at h
      · rename_i g hg
        rw [wn_eq] at h
        obtain ⟨z, hz, _⟩ := bd_some h
        obtain ⟨g1, g2, g3⟩ := G.mkr f g hg
        refine call_cls S.fr G.X S.nw g1 g2 g3 fun xa dx h' F' N' lt hlt => ?_
        have N1 : News h₀ L h' ((dx, dictOf [] 0) :: news) := fun q hq => N' q (.tail _ hq)
        obtain ⟨S1, X1⟩ := S.alloc (ao := .dict []) (s' := { s with heap := h' }) F' N1 lt ⟨[], 0, rfl, trivial⟩ rfl
        have lt2 : ∀ q ∈ (dx, dictOf [] 0) :: news, q.1 < xa := fun q hq => by
          rcases List.mem_cons.mp hq with rfl | hq
          · exact hlt
          · exact Nat.lt_trans (lt q hq) hlt
        obtain ⟨S2, X2⟩ := S1.alloc (ao := .inst f σ.n) (s' := { s with heap := h' }) F' N' lt2 ⟨Nat.lt_succ_of_lt (Nat.lt_succ_self _), (congrArg (instObj f) ((Mine.upd_ext (upd ρ σ.n dx) (σ.n + 1) xa σ.n (Nat.lt_succ_self σ.n)).trans (upd_self ρ σ.n dx)).symm)⟩ rfl
        have X12 := X1.trans X2
        obtain ⟨axu, hru, huu⟩ := under_ax (C := f) (vs := vs) ax'
        have hin : (σ.n + 1) < ((σ.new (.dict [])).new (.inst f σ.n)).n := Nat.lt_succ_self _
        have hxa : upd (upd ρ σ.n dx) (σ.n + 1) xa (σ.n + 1) = xa := upd_self _ _ _
        exact callF_sound G H hz (us := .ref xa :: vs) axu hru huu S2 ⟨⟨hin, by rw [show (σ.new (.dict [])).n = σ.n + 1 from rfl, hxa]⟩, X12.lr hv⟩ (back_none (n := n) h hz hin hxa X12 ⟨rfl, rfl, rfl⟩ k)
      · exact wpAny_call (callF_sound G H h ax hroom hun S hv k)
theorem lenOf_sound {v : AV} {vv : Value} {x : Option AV × AS} (h : lenOf σ v = some x) (S : St prog w sc h₀ fs L m σ ρ news s) (hv : VR σ.n ρ v vv) (k : Kc prog w sc h₀ fs L m VR σ ρ news s x Q E) : wpAny (model prog w) A (PySem.call (.builtin "len") [vv]) Q E s := by
  unfold lenOf at h
  split at h
  · obtain ⟨_, rfl⟩ := hv
    split at h
    · rename_i xs hg
      obtain ⟨hle, h⟩ := cond_some h
      cases h
      obtain ⟨its, I, R⟩ := tup_at S hg
      have hl := R.len
      have := Nat.le_of_ble_eq_true hle
      have hs : its.size = xs.length := by rw [← hl, Array.length_toList]
      exact len_tuple I (by rw [hs]; omega) (k.done (S.of_heap rfl) ⟨rfl, rfl, rfl⟩ ⟨_, by rw [hs]⟩)
    · rename_i xs hg
      obtain ⟨hle, h⟩ := cond_some h
      cases h
      obtain ⟨its, I, R⟩ := list_at S hg
      have hl := R.len
      have := Nat.le_of_ble_eq_true hle
      have hs : its.size = xs.length := by rw [← hl, Array.length_toList]
      exact len_list I (by rw [hs]; omega) (k.done (S.of_heap rfl) ⟨rfl, rfl, rfl⟩ ⟨_, by rw [hs]⟩)
    · cases h
  · cases h
theorem strOf_sound {v : AV} {vv : Value} {x : Option AV × AS} (h : strOf σ v = some x) (S : St prog w sc h₀ fs L m σ ρ news s) (hv : VR σ.n ρ v vv) (k : Kc prog w sc h₀ fs L m VR σ ρ news s x Q E) : wpAny (model prog w) A (PySem.call (.type "str") [vv]) Q E s := by
  unfold strOf at h
  split at h
  · rename_i j
    obtain ⟨hc, h⟩ := cond_some h
    cases h
    obtain ⟨t, rfl⟩ := hv
    rw [Bool.and_eq_true] at hc
    have h1 := of_decide_eq_true hc.1
    have h2 := of_decide_eq_true hc.2
    obtain ⟨i, rfl, hi⟩ := int_of (n := 4) h1 (Int.lt_add_one_of_le h2)
    rcases lt4 hi with rfl | rfl | rfl | rfl <;> exact P.str_of_int (by decide) (k.done (S.of_heap rfl) (sm_toks s _) ⟨_, rfl⟩)
  · cases h
theorem excI_sound (G : Glb T K p loose mean mg mb h₀) {v u : AV} {vv uv : Value} {x : Option AV × AS} (h : excI σ v u = some x) (S : St prog w sc h₀ fs L m σ ρ news s) (hv : VR σ.n ρ v vv) (hu : VR σ.n ρ u uv) (k : Kc prog w sc h₀ fs L m VR σ ρ news s x Q E) :
    wpAny (model prog w) A (PySem.call (.builtin "Exception.__init__") [vv, uv]) Q E s := by
  unfold excI at h
  split at h
  · rename_i i
    split at h
    · split at h
      · rename_i d hi
        split at h
        · cases h
          obtain ⟨_, rfl⟩ := hv
          obtain ⟨o, m1, m2, t, rfl⟩ := S.get hi
          refine wpAny_call (G.xs.init (G.X.keeps S.fr.keep) (by rw [sizeLine_eq]; show 1 ≤ _; omega) m2 fun h' hk he => ?_)
          obtain ⟨news', S', N'⟩ := S.change (s' := { s with heap := h' }) (ao := .exc none) hi hk he ⟨_, rfl⟩ rfl
          obtain ⟨S2, N2⟩ := S'.sub (τ := σ) (Nat.le_refl _) fun j a hj => by
            rw [get_put σ i j _ (get_lt hi)]
            by_cases e : j = i
            · subst e; rw [if_pos rfl, ← hi]; exact hj
            · rw [if_neg e]; exact hj
          exact k.done' S2 (N'.trans N2) ⟨rfl, rfl, rfl⟩ rfl
        · cases h
      · cases h
    · cases h
  · cases h
theorem callB_sound (G : Glb T K p loose mean mg mb h₀) {r : Rc} {b : Bi} {as : List AV} {vs : List Value} {x : Option AV × AS} (h : callB T b as σ = some x)
    (S : St prog w sc h₀ fs L m σ ρ news s) (hv : LR σ.n ρ as vs) (k : Kc prog w sc h₀ fs L m VR σ ρ news s x Q E) : wpAny (model prog w) A (PySem.call (.builtin b.nm) vs) Q E s := by
  cases b with
  | isinstance =>
    replace h : (match arg2 as with | some (v, t) => lift σ ((isInst T σ v t).map .bool) | .none => .none) = some x := h
    split at h
    · rename_i v t ha
      rw [arg2_eq ha] at hv
      obtain ⟨v1, u, rfl, hc, hm⟩ := hv.two
      obtain ⟨b, hb, hx⟩ := lift_some h
      cases hi : isInst T σ v t with
      | none => rw [hi] at hb; cases hb
      | some c =>
        rw [hi] at hb
        cases hb
        subst hx
        exact inst_sound G hi S hc hm fun tk => k.done (S.of_heap rfl) (sm_toks s tk) rfl
    · cases h
  | len =>
    replace h : (match arg1 as with | some v => lenOf σ v | .none => .none) = some x := h
    split at h
    · rename_i v ha
      rw [arg1_eq ha] at hv
      obtain ⟨v1, rfl, hc⟩ := hv.one
      exact lenOf_sound h S hc k
    · cases h
  | excInit =>
    replace h : (match arg2 as with | some (v, t) => excI σ v t | .none => .none) = some x := h
    split at h
    · rename_i v t ha
      rw [arg2_eq ha] at hv
      obtain ⟨v1, u, rfl, hc, hm⟩ := hv.two
      exact excI_sound G h S hc hm k
    · cases h
theorem call1_sound (G : Glb T K p loose mean mg mb h₀) (HO : HaulOk prog w sc h₀) (WO : WordOk prog w sc h₀) {r : Rc} {n : Nat} (H : Snd prog w sc h₀ r n) : SCa prog w sc h₀ (stp T r) (n + 1) := by
  intro f as σ x h A env outer fs L m ρ news s fv vs Q E ax' S hf hv k
  replace h : call1 T r f as σ = some x := h
  unfold call1 at h
  split at h
  · rw [show fv = _ from hf]; exact callG_sound G HO WO H h ax' S hv k
  · rw [hf.2]; exact callC_sound G H h ax' S hv k
  · rw [show fv = _ from hf]; exact callB_sound (r := r) G h S hv k
  · rw [show fv = _ from hf]
    split at h
    · split at h
      · rename_i v ha
        rw [arg1_eq ha] at hv
        obtain ⟨v1, rfl, hc⟩ := hv.one
        exact strOf_sound h S hc k
      · cases h
    · split at h
      · rename_i v ha
        rw [arg1_eq ha] at hv
        obtain ⟨v1, rfl, hc⟩ := hv.one
        exact rngOf_sound h S hc k
      · cases h
    · cases h
  · cases h
end
theorem run_sound (G : Glb T K p loose mean mg mb h₀) (HO : HaulOk prog w sc h₀) (WO : WordOk prog w sc h₀) : ∀ n, ∀ i, i ≤ n → Snd prog w sc h₀ (run T i) i := by
  intro n
  induction n with
  | zero =>
    intro i hi
    have : i = 0 := by omega
    subst this
    refine ⟨?_, ?_, ?_, ?_⟩
    · intro fe e lc σ x h; cases h
    · intro fe e lc σ x h; cases h
    · intro fe e lc σ x h; cases h
    · intro f as σ x h; cases h
  | succ n ih =>
    intro i hi
    by_cases e : i ≤ n
    · exact ih i e
    · have : i = n + 1 := by omega
      subst this
      exact ⟨ev1_sound G (ih n (Nat.le_refl _)), tr1_sound G (ih n (Nat.le_refl _)), ex1_sound G ih, call1_sound G HO WO (ih n (Nat.le_refl _))⟩
end
end Mine
end

section
open PySem PySem.W PyProof.Rows
set_option Elab.async false
set_option maxRecDepth 100000
set_option maxHeartbeats 0
namespace Mine
noncomputable def S (s : String) : Str := Str.ofString s
noncomputable def gtab : List (Str × AV) := [(S "Subtype", .glob 111), (S "full_subtype", .glob 164), (S "full_type", .glob 171), (S "is_scalar", .glob 143), (S "is_unset", .glob 293), (S "Unset", .glob 188), (S "Type", .glob 90), (S "SCALAR_KINDS", .glob 73), (S "MOST_PRIVATE", .int 41), (S "ArrayValue", .glob 261), (S "RecordValue", .glob 282), (S "copy_value", .glob 305), (S "bounds_of", .glob 485), (S "in_bounds", .glob 492), (S "is_member", .glob 499), (S "refuse", .glob 478), (S "check_range", .glob 506), (S "fit_value", .glob 609), (S "store_checked", .glob 649), (S "write_place", .glob 341), (S "told_value", .glob 719), (S "whole_subtype", .glob 157), (S "elaborated", .glob 757), (S "check_inner", .glob 520), (S "laid_subtype", .glob 731), (S "range_elaborated", .glob 745), (S "UNSET", .glob 194), (S "held_subtype", .glob 769), (S "goes_in", .glob 764), (S "passed_value", .glob 602), (S "lay_formal", .glob 776), (S "numbered", .glob 129), (S "int_type", .glob 122), (S "TaskThing", .glob 835), (S "ProtectedThing", .glob 814), (S "_law_haul", .glob 848), (S "_law_seen", .glob 869), (S "_law_subtypes", .glob 855), (S "_law_sorts", .glob 840), (S "_law_modes", .glob 841), (S "_law_value", .glob 862), (S "Cell", .glob 212), (S "CellMaker", .glob 240), (S "FRESH", .str (S "fresh")), (S "_law_due", .glob 876), (S "Run", .glob 687), (S "Frame", .glob 666), (S "AdaRaise", .glob 70), (S "AdaError", .glob 31), (S "_law_word", .glob 883), (S "hold_actuals", .glob 790), (S "lay_formals", .glob 783), (S "copy_back", .glob 797)]
noncomputable def btab : List (Str × AV) := [(S "isinstance", .bi .isinstance), (S "len", .bi .len), (S "str", .ty .str), (S "tuple", .ty .tuple), (S "range", .ty .range), (S "Exception", .ty .exc)]
noncomputable def flds : List (Nat × List String) := [
 (90, ["kind", "name", "number", "parent", "low", "high", "literals", "modulus", "small", "index", "component", "is_constrained", "discriminants", "components", "variant", "designated", "is_tagged", "wide", "is_limited", "is_private", "is_abstract", "is_constant", "is_late", "operations"]),
 (111, ["type", "constraint"]), (212, ["value", "number", "subtype"]), (240, ["last"]),
 (687, ["world", "limits", "nodes", "statements", "declarations", "cells", "task", "steps", "line", "fault", "discs", "piled", "heaped", "about", "ends", "drops", "resumes", "is_free", "activate", "tasking", "find_sub", "call_function", "dispatch_function", "make_active", "task_attr", "run_entry", "run_procedure", "function_result", "lay_operation", "prot", "passed"]),
 (666, ["parent", "sub", "names", "types"]),
 (835, ["number", "name", "master", "state", "queues", "open", "wake", "late", "call", "serving", "masters", "raised", "answer", "is_abnormal", "inside", "activator", "pending", "has_failed", "stack", "frame", "result", "bases", "caught", "resume", "leaving", "line"]),
 (814, ["number", "entries", "queues", "writer", "readers", "line", "body", "frame", "cells", "is_making"])]
noncomputable def memS : List String → Str → Bool
  | [], _ => false
  | y :: r, x => cond (sEq (S y) x) true (memS r x)
theorem memS_2 (y r x) : memS (y :: r) x = (cond (sEq (S y) x) true (memS r x) : Bool) := rfl
noncomputable def fOk : List (Nat × List String) → Nat → Str → Bool
  | [], _, _ => false
  | (C, l) :: r, D, x => cond (Nat.beq C D) (memS l x) (fOk r D x)
theorem fOk_2 (C l r D x) : fOk ((C, l) :: r) D x = (cond (Nat.beq C D) (memS l x) (fOk r D x) : Bool) := rfl
noncomputable def lkN {α : Type} : List (Nat × α) → Nat → Option α
  | [], _ => .none
  | (C, a) :: r, D => cond (Nat.beq C D) (some a) (lkN r D)
theorem lkN_2 {α : Type} (C a r D) : lkN ((C, a) :: r) D = (cond (Nat.beq C D) (some a) (lkN r D) : Option α) := rfl
noncomputable def inits : List (Nat × Nat) := [(90, 87), (111, 108), (212, 209), (240, 230), (687, 684), (666, 663), (835, 832), (814, 811)]
noncomputable def memN : List Nat → Nat → Bool
  | [], _ => false
  | y :: r, x => cond (Nat.beq y x) true (memN r x)
theorem memN_2 (y r x) : memN (y :: r) x = (cond (Nat.beq y x) true (memN r x) : Bool) := rfl
/-- is an object of the type t one of the class c? -/
noncomputable def isiT (t c : Value) : Option Bool := match t with
  | .ref a => match c with
    | .ref b => cond (Nat.beq a b) (some true) (cond (memN [835, 814, 188] a && memN [188, 261, 282, 835, 814] b) (some false) .none)
    | _ => .none
  | .type u => cond (u == "int") (match c with
    | .ref b => cond (memN [188, 261, 282, 835, 814] b) (some false) .none
    | .type v => cond (v == "tuple") (some false) .none
    | _ => .none) .none
  | _ => .none
noncomputable def kps : List Nat := [111, 164, 171, 143, 293, 90, 305, 485, 492, 499, 478, 506, 609, 649, 341, 719, 157, 757, 520, 731, 745, 769, 764, 602, 776, 129, 122, 835, 814, 848, 869, 855, 862, 212, 240, 876, 687, 666, 70, 883, 790, 783, 797]
noncomputable def sSub : List Nat := [8, 9, 16, 17, 18, 19, 20, 27, 28, 36, 37, 44, 45, 53, 54, 57, 58, 59, 60, 61, 62, 63, 64]
/-- the objects behind the value of formal i -/
noncomputable def selV (i : Nat) : List Nat := [113 + 128 * i, 114 + 128 * i, 115 + 128 * i]
noncomputable def selA : List Nat := [6, 7, 1, 4, 56, 65, 66, 67, 68]
noncomputable def newA : List Nat := [56, 57, 88, 104, 72, 41, 42, 43, 121]
noncomputable def selB (i : Nat) : List Nat := 65 :: 66 :: (160 + 128 * i) :: (176 + 128 * i) :: (sSub ++ selV i)
noncomputable def selC (i : Nat) : List Nat := 2 :: 1041 :: 1282 :: 1039 :: 1029 :: 1025 :: 1024 :: 1030 :: 1038 :: 1037 :: 65 :: 66 :: (160 + 128 * i) :: (176 + 128 * i) :: (sSub ++ ((1296 + 64 * i) :: (1297 + 64 * i) :: (1312 + 64 * i) :: selV i))
noncomputable def selD (i : Nat) : List Nat := (1297 + 64 * i) :: (1296 + 64 * i) :: (144 + 128 * i) :: (129 + 128 * i) :: (128 + 128 * i) :: (sSub ++ selV i)
/-- the loops' turns: which objects they work on -/
noncomputable def frI (ln i : Nat) : Option FrS := cond (Nat.beq ln 678) (some ⟨selA, newA, 128⟩) (cond (Nat.beq ln 582) (some ⟨selB i, [], 32⟩) (cond (Nat.beq ln 576) (some ⟨selC i, [], 64⟩) .none))
noncomputable def frT (ln : Nat) (v : AV) : Option FrS := match v with
  | .int z => match z with
    | .ofNat i => frI ln i
    | _ => .none
  | .id x => cond (Nat.beq ln 588) (some ⟨selD ((x - 1312) / 64), [], 32⟩) .none
  | _ => .none
noncomputable def b16 (n : Nat) : Nat := (n / 16 + 1) * 16
/-- on these lines the ids begin anew, so that they do not hang on the case -/
noncomputable def bumpT (ln n : Nat) : Nat := cond (Nat.beq ln 687) 1024 (cond ((Nat.ble 679 ln && Nat.ble ln 686) || (Nat.ble 577 ln && Nat.ble ln 579)) (b16 n) n)
noncomputable def tabF (P : Params) (F : Nat → AV → Option FrS) : ITab where
  K := kf P
  gt := gtab
  bt := btab
  rd := fOk flds
  wr := fOk flds
  mth C m := cond (Nat.beq C 240 && sEq m (S "make_cell")) (some 237) .none
  mkr := lkN inits
  isi := isiT
  own C := memN [188, 835, 814] C
  ki a := cond (Nat.beq a 194) (some 188) .none
  kp := memN kps
  xwr := memS ["text", "name", "word", "line"]
  clsM C m := cond (Nat.beq C 31 && sEq m (S "__init__")) (some 28) .none
  fr := F
  bump := bumpT
noncomputable def tab (P : Params) : ITab := tabF P frT
end Mine
end

section
open PySem PySem.W PyProof.Rows PySem.Calls
set_option Elab.async false
set_option maxRecDepth 100000
set_option maxHeartbeats 0
set_option linter.unusedVariables false
namespace Mine
noncomputable def okV (a : AV) (v : Value) : Bool := match a, v with
  | .glob x, .ref y => Nat.beq x y
  | .int k, .int j _ => decide (k = j)
  | .str x, .str y _ => sEq x y
  | .bi x, .builtin y => decide (x.nm = y)
  | .ty x, .type y => decide (x.nm = y)
  | _, _ => false
theorem okV_gv {a : AV} {v : Value} (h : okV a v = true) : GV a v := by
  cases a with
  | glob x => cases v with
    | ref y => rw [Nat.eq_of_beq_eq_true h]; rfl
    | _ => cases h
  | int k => cases v with
    | int j t => rw [of_decide_eq_true h]; exact ⟨_, rfl⟩
    | _ => cases h
  | str x => cases v with
    | str y t => rw [sEq_iff.mp h]; exact ⟨_, rfl⟩
    | _ => cases h
  | bi x => cases v with
    | builtin y => rw [← of_decide_eq_true h]; rfl
    | _ => cases h
  | ty x => cases v with
    | type y => rw [← of_decide_eq_true h]; rfl
    | _ => cases h
  | _ => cases h
noncomputable def ckG (K : Frag) : List (Str × AV) → Bool
  | [] => true
  | (x, a) :: r => cond (match nsIn K mainGlobals x with | some (some v) => okV a v | _ => false) (ckG K r) false
theorem ckG_2 (K : Frag) (x a r) : ckG K ((x, a) :: r) = (cond (match nsIn K mainGlobals x with | some (some v) => okV a v | _ => false) (ckG K r) false : Bool) := rfl
theorem ckG_get {K : Frag} {x : Str} {a : AV} : ∀ {l : List (Str × AV)}, ckG K l = true → lk l x = some a → ∃ v, nsIn K mainGlobals x = some (some v) ∧ GV a v
  | [], _, h => nomatch h
  | (y, b) :: r, h, e => by
    rw [ckG_2] at h
    cases q : (match nsIn K mainGlobals y with | some (some v) => okV b v | _ => false) with
    | false => rw [q] at h; cases h
    | true =>
      rw [q] at h
      simp only [lk_1, lk_2] at e
      cases c : sEq y x with
      | true =>
        rw [c] at e; cases e
        have hy : y = x := sEq_iff.mp c
        subst hy
        split at q
        · rename_i v hv; exact ⟨v, hv, okV_gv q⟩
        · cases q
      | false => rw [c] at e; exact ckG_get h e
noncomputable def ckB (K : Frag) : List (Str × AV) → Bool
  | [] => true
  | (x, a) :: r => cond (sEq x (S "__name__")) false (cond (match nsIn K mainGlobals x with | some none => true | _ => false) (cond (match bootBuiltins x with | some v => okV a v | none => false) (ckB K r) false) false)
theorem ckB_2 (K : Frag) (x a r) : ckB K ((x, a) :: r) = (cond (sEq x (S "__name__")) false (cond (match nsIn K mainGlobals x with | some none => true | _ => false) (cond (match bootBuiltins x with | some v => okV a v | none => false) (ckB K r) false) false) : Bool) := rfl
theorem ckB_get {K : Frag} {x : Str} {a : AV} : ∀ {l : List (Str × AV)}, ckB K l = true → lk l x = some a → ∃ v, nsIn K mainGlobals x = some none ∧ bootBuiltins x = some v ∧ x ≠ "__name__" ∧ GV a v
  | [], _, h => nomatch h
  | (y, b) :: r, h, e => by
    rw [ckB_2] at h
    cases q1 : sEq y (S "__name__") with
    | true => rw [q1] at h; cases h
    | false =>
      rw [q1, cond_false] at h
      cases q2 : (match nsIn K mainGlobals y with | some none => true | _ => false) with
      | false => rw [q2] at h; cases h
      | true =>
        rw [q2, cond_true] at h
        cases q3 : (match bootBuiltins y with | some v => okV b v | none => false) with
        | false => rw [q3] at h; cases h
        | true =>
          rw [q3, cond_true] at h
          simp only [lk_1, lk_2] at e
          cases c : sEq y x with
          | true =>
            rw [c] at e; cases e
            have hy : y = x := sEq_iff.mp c
            subst hy
            split at q2
            · rename_i h2
              split at q3
              · rename_i v hv
                exact ⟨v, h2, hv, fun z => sEq_ne q1 z, okV_gv q3⟩
              · cases q3
            · cases q2
          | false => rw [c] at e; exact ckB_get h e
noncomputable def rdB (K : Frag) (C : Nat) (a : Str) : Bool := plainGet K C a && hasDictIn K C && (match findIn K (.ref C) a with | some attr => noGet K attr | none => false) && findIn K (.ref C) "__setattr__" == some (some (.builtin "object.__setattr__")) && plainOver K C && takerIn K C a == some none
noncomputable def ckL (K : Frag) (C : Nat) : List String → Bool
  | [] => true
  | y :: r => cond (rdB K C (S y)) (ckL K C r) false
theorem ckL_2 (K : Frag) (C : Nat) (y r) : ckL K C (y :: r) = (cond (rdB K C (S y)) (ckL K C r) false : Bool) := rfl
noncomputable def ckF (K : Frag) : List (Nat × List String) → Bool
  | [] => true
  | (C, l) :: r => cond (ckL K C l) (ckF K r) false
theorem ckF_2 (K : Frag) (C l r) : ckF K ((C, l) :: r) = (cond (ckL K C l) (ckF K r) false : Bool) := rfl
theorem ckL_get {K : Frag} {C : Nat} {x : Str} : ∀ {l : List String}, ckL K C l = true → memS l x = true → rdB K C x = true
  | [], _, h => nomatch h
  | y :: r, h, e => by
    rw [ckL_2] at h
    cases q : rdB K C (S y) with
    | false => rw [q] at h; cases h
    | true =>
      rw [q, cond_true] at h
      rw [memS_2] at e
      cases c : sEq (S y) x with
      | true => rw [← sEq_iff.mp c]; exact q
      | false => rw [c] at e; exact ckL_get h e
theorem ckF_get {K : Frag} {C : Nat} {x : Str} : ∀ {l : List (Nat × List String)}, ckF K l = true → fOk l C x = true → rdB K C x = true
  | [], _, h => nomatch h
  | (D, l) :: r, h, e => by
    rw [ckF_2] at h
    cases q : ckL K D l with
    | false => rw [q] at h; cases h
    | true =>
      rw [q, cond_true] at h
      rw [fOk_2] at e
      cases c : Nat.beq D C with
      | true => rw [c] at e; have := Nat.eq_of_beq_eq_true c; subst this; exact ckL_get q e
      | false => rw [c] at e; exact ckF_get h e
theorem rdB_eq {K : Frag} {C : Nat} {a : Str} (h : rdB K C a = true) : (plainGet K C a = true ∧ hasDictIn K C = true ∧ ∃ attr, findIn K (.ref C) a = some attr ∧ noGet K attr = true) ∧
    (findIn K (.ref C) "__setattr__" = some (some (.builtin "object.__setattr__")) ∧ plainOver K C = true ∧ takerIn K C a = some none ∧ hasDictIn K C = true) := by
  unfold rdB at h
  simp only [Bool.and_eq_true] at h
  obtain ⟨⟨⟨⟨⟨h1, h2⟩, h3⟩, h4⟩, h5⟩, h6⟩ := h
  refine ⟨⟨h1, h2, ?_⟩, beq_iff_eq.mp h4, h5, beq_iff_eq.mp h6, h2⟩
  split at h3
  · rename_i attr ha; exact ⟨attr, ha, h3⟩
  · cases h3
noncomputable def ckI (K : Frag) : List (Nat × Nat) → Bool
  | [] => true
  | (C, f) :: r => cond (makesIn K C && findIn K (.ref C) "__init__" == some (some (.ref f)) && isFn K (.ref f)) (ckI K r) false
theorem ckI_2 (K : Frag) (C f r) : ckI K ((C, f) :: r) = (cond (makesIn K C && findIn K (.ref C) "__init__" == some (some (.ref f)) && isFn K (.ref f)) (ckI K r) false : Bool) := rfl
theorem ckI_get {K : Frag} {C f : Nat} : ∀ {l : List (Nat × Nat)}, ckI K l = true → lkN l C = some f → makesIn K C = true ∧ findIn K (.ref C) "__init__" = some (some (.ref f)) ∧ isFn K (.ref f) = true
  | [], _, h => nomatch h
  | (D, g) :: r, h, e => by
    rw [ckI_2] at h
    cases q : (makesIn K D && findIn K (.ref D) "__init__" == some (some (.ref g)) && isFn K (.ref g)) with
    | false => rw [q] at h; cases h
    | true =>
      rw [q, cond_true] at h
      rw [lkN_2] at e
      cases c : Nat.beq D C with
      | true =>
        rw [c] at e; cases e
        have := Nat.eq_of_beq_eq_true c; subst this
        simp only [Bool.and_eq_true] at q
        exact ⟨q.1.1, beq_iff_eq.mp q.1.2, q.2⟩
      | false => rw [c] at e; exact ckI_get h e
theorem memN_mem {x : Nat} : ∀ {l : List Nat}, memN l x = true → x ∈ l
  | [], h => nomatch h
  | y :: r, h => by
    rw [memN_2] at h
    cases c : Nat.beq y x with
    | true => rw [Nat.eq_of_beq_eq_true c]; exact .head _
    | false => rw [c] at h; exact .tail _ (memN_mem h)
noncomputable def allN (f : Nat → Bool) : List Nat → Bool
  | [] => true
  | x :: r => cond (f x) (allN f r) false
theorem allN_2 (f : Nat → Bool) (x r) : allN f (x :: r) = (cond (f x) (allN f r) false : Bool) := rfl
theorem allN_get {f : Nat → Bool} {x : Nat} : ∀ {l : List Nat}, allN f l = true → x ∈ l → f x = true
  | y :: r, h, e => by
    rw [allN_2] at h
    cases q : f y with
    | false => rw [q] at h; cases h
    | true =>
      rw [q, cond_true] at h
      rcases List.mem_cons.mp e with rfl | e
      · exact q
      · exact allN_get h e
noncomputable def isF (x : Option Bool) : Bool := match x with | some false => true | _ => false
theorem isF_eq {x : Option Bool} (h : isF x = true) : x = some false := by
  unfold isF at h
  split at h
  · rfl
  · cases h
noncomputable def ownB (K : Frag) (C : Nat) : Bool := plainGet K C "__class__" && hasDictIn K C && findIn K (.ref C) "__class__" == some (some (.builtin "object.__class__")) && specialIn K (.builtin "object.__class__") "__get__" == some (some (.builtin "getset_descriptor.__get__")) && takesIn K (.builtin "object.__class__") == some true && mroIn K C (.type "object") == some true
theorem g_ok (P : Params) : ckG (kf P) gtab = true := by kernel_rfl
theorem b_ok (P : Params) : ckB (kf P) btab = true := by kernel_rfl
theorem f_ok (P : Params) : ckF (kf P) flds = true := by kernel_rfl
theorem i_ok (P : Params) : ckI (kf P) inits = true := by kernel_rfl
theorem m_ok (P : Params) : (plainGet (kf P) 240 (S "make_cell") && findIn (kf P) (.ref 240) (S "make_cell") == some (some (.ref 237)) && isFn (kf P) (.ref 237) && keepIn (kf P) (.ref 237)) = true := by kernel_rfl
theorem k_ok (P : Params) : allN (fun f => keepIn (kf P) (.ref f)) kps = true := by kernel_rfl
theorem o_ok (P : Params) : allN (ownB (kf P)) [188, 835, 814] = true := by kernel_rfl
theorem s_ok (P : Params) : allN (fun a => allN (fun b => Nat.beq a b || isF (kitOne (kf P) (.ref a) (.ref b))) [188, 261, 282, 835, 814]) [835, 814, 188] = true := by kernel_rfl
theorem s2_ok (P : Params) : allN (fun b => isF (kitOne (kf P) (.type "int") (.ref b))) [188, 261, 282, 835, 814] = true := by kernel_rfl
theorem s3_ok (P : Params) : isF (kitOne (kf P) (.type "int") (.type "tuple")) = true := by kernel_rfl
noncomputable def ckX (K : Frag) : List String → Bool
  | [] => true
  | y :: r => cond (takerIn K 70 (S y) == some none) (ckX K r) false
theorem ckX_2 (K : Frag) (y r) : ckX K (y :: r) = (cond (takerIn K 70 (S y) == some none) (ckX K r) false : Bool) := rfl
theorem ckX_get {K : Frag} {x : Str} : ∀ {l : List String}, ckX K l = true → memS l x = true → takerIn K 70 x = some none
  | [], _, h => nomatch h
  | y :: r, h, e => by
    rw [ckX_2] at h
    obtain ⟨h1, h2⟩ : (takerIn K 70 (S y) == some none) = true ∧ ckX K r = true := by
      cases q : (takerIn K 70 (S y) == some none) with
      | true => rw [q] at h; exact ⟨rfl, h⟩
      | false => rw [q] at h; cases h
    rw [memS_2] at e
    cases c : sEq (S y) x with
    | true => rw [← sEq_iff.mp c]; exact beq_iff_eq.mp h1
    | false => rw [c] at e; exact ckX_get h2 e
noncomputable def cd70 (P : Params) : ClassData := (clsIn (kf P) 70).getD default
theorem cd70_at (P : Params) : clsIn (kf P) 70 = some (cd70 P) := by kernel_rfl
theorem cd70_mro (P : Params) : (cd70 P).mro = [.ref 70, .ref 31, .type "Exception", .type "BaseException", .type "object"] := by kernel_rfl
theorem cd70_dict (P : Params) : (cd70 P).hasDict = true := by kernel_rfl
theorem x70_set (P : Params) : findIn (kf P) (.ref 70) "__setattr__" = some (some (.builtin "object.__setattr__")) := by kernel_rfl
theorem x70_t (P : Params) : ckX (kf P) ["text", "name", "word", "line"] = true := by kernel_rfl
theorem exk (P : Params) : ExcK (kf P) (cd70 P) (memS ["text", "name", "word", "line"]) where
  at_ := cd70_at P
  dict := cd70_dict P
  ne := by rw [cd70_mro]; rfl
  ob := by rw [cd70_mro]; decide +kernel
  rf := fun x => by rw [cd70_mro]; exact refuse_exc x
  set := x70_set P
  tk := fun x h => ckX_get (x70_t P) h
theorem x70_at (P : Params) : (kf P).lookup 70 = some (o70 P) := by kernel_rfl
theorem x70_i (P : Params) : findIn (kf P) (.ref 70) "__init__" = some (some (.ref 67)) := by kernel_rfl
theorem x67_t (P : Params) : typeIn (kf P) (.ref 67) = some (.type "function") := by kernel_rfl
theorem xcs (P : Params) : ExcS (kf P) := excS (bm := [.ref 31, .type "Exception", .type "BaseException", .type "object"]) (x70_at P) (by decide +kernel) (by decide +kernel) (by decide +kernel) (by decide +kernel) (x70_i P) (x67_t P)
theorem x67_p (P : Params) : (match funK (kf P) 67 with | some fd => (match plainAr fd.params with | some ps => Nat.ble ps.length 4 | none => true) | none => true) = true := by kernel_rfl
theorem c31a (P : Params) : specialIn (kf P) (.ref 31) "__getattribute__" = some (some (.builtin "type.__getattribute__")) := by kernel_rfl
theorem c31b (P : Params) : typeIn (kf P) (.ref 31) = some (.type "type") := by kernel_rfl
theorem c31c (P : Params) : readsIn (kf P) 31 (.type "type") = true := by kernel_rfl
theorem c31d (P : Params) : findCls (kf P) (.ref 31) (.type "type") "__init__" = some (.val (.ref 28)) := by kernel_rfl
theorem c31e (P : Params) : keepIn (kf P) (.ref 28) = true := by kernel_rfl
theorem tyx (P : Params) : findCls (kf P) (.type "Exception") (.type "type") "__init__" = some (.val (.builtin "Exception.__init__")) := by kernel_rfl
theorem x70_w (P : Params) : (findIn (kf P) (.ref 70) "__getattribute__" = some (some (.builtin "BaseException.__getattribute__")) ∧ findIn (kf P) (.ref 70) "__getattr__" = some none ∧ mroIn (kf P) 70 (.type "BaseException") = some true) ∧ hasDictIn (kf P) 70 = true ∧ (match findIn (kf P) (.ref 70) (Str.ofString "word") with | some attr => noGet (kf P) attr | none => false) = true := ⟨⟨by kernel_rfl, by kernel_rfl, by kernel_rfl⟩, by kernel_rfl, by kernel_rfl⟩
theorem glb {P : Params} {p : Program} {loose : List Str} {mean : ExcName → Option Value} {mg mb : Str → Option Value} {h₀ : Heap} (X : (kf P).In h₀) (T : Top p loose mean mg mb h₀) : Glb (tab P) (kf P) p loose mean mg mb h₀ where
  X := X
  top := T
  tk := rfl
  gt := fun x a h => ckG_get (g_ok P) h
  bt := fun x a _ h => ckB_get (b_ok P) h
  rd := fun C a h => (rdB_eq (ckF_get (f_ok P) h)).1
  wr := fun C a h => (rdB_eq (ckF_get (f_ok P) h)).2
  mth := fun C a f h => by
    have h : cond (Nat.beq C 240 && sEq a (S "make_cell")) (some 237) none = some f := h
    obtain ⟨hc, h⟩ := cond_some h
    cases h
    rw [Bool.and_eq_true] at hc
    have e1 := Nat.eq_of_beq_eq_true hc.1
    have e2 := sEq_iff.mp hc.2
    subst e1 e2
    have := m_ok P
    simp only [Bool.and_eq_true] at this
    exact ⟨this.1.1.1, beq_iff_eq.mp this.1.1.2, this.1.2, this.2⟩
  mkr := fun C f h => ckI_get (i_ok P) h
  isi := fun t c b h => by
    replace h : isiT t c = some b := h
    cases t with
    | ref a => cases c with
      | ref b' =>
        have h : cond (Nat.beq a b') (some true) (cond (memN [835, 814, 188] a && memN [188, 261, 282, 835, 814] b') (some false) .none) = some b := h
        cases q : Nat.beq a b' with
        | true =>
          rw [q] at h; cases h
          rw [Nat.eq_of_beq_eq_true q]
          unfold kitOne
          rw [if_pos (beq_self_eq_true _)]
        | false =>
          rw [q, cond_false] at h
          obtain ⟨hc, h⟩ := cond_some h
          cases h
          rw [Bool.and_eq_true] at hc
          have := allN_get (allN_get (s_ok P) (memN_mem hc.1)) (memN_mem hc.2)
          rw [q, Bool.false_or] at this
          exact isF_eq this
      | _ => cases h
    | type u =>
      obtain ⟨hu, h⟩ := cond_some h
      obtain rfl := eq_of_beq hu
      cases c with
      | ref b' =>
        obtain ⟨hc, h⟩ := cond_some h
        cases h
        exact isF_eq (allN_get (s2_ok P) (memN_mem hc))
      | type v =>
        obtain ⟨hv, h⟩ := cond_some h
        obtain rfl := eq_of_beq hv
        cases h
        exact isF_eq (s3_ok P)
      | _ => cases h
    | _ => cases h
  own := fun C h => by
    have := allN_get (o_ok P) (memN_mem (show memN [188, 835, 814] C = true from h))
    unfold ownB at this
    simp only [Bool.and_eq_true] at this
    obtain ⟨⟨⟨⟨⟨h1, h2⟩, h3⟩, h4⟩, h5⟩, h6⟩ := this
    exact ⟨h1, h2, beq_iff_eq.mp h3, beq_iff_eq.mp h4, beq_iff_eq.mp h5, beq_iff_eq.mp h6⟩
  ki := fun a C h => by
    have h : cond (Nat.beq a 194) (some 188) none = some C := h
    obtain ⟨hc, h⟩ := cond_some h
    cases h
    have e := Nat.eq_of_beq_eq_true hc
    subst e
    exact ⟨193, _, _, (by kernel_rfl : (kf P).lookup 194 = some (instObj 188 193)), (by kernel_rfl : (kf P).lookup 193 = some (dictOf [en P "text" 465 (.str (Str.ofString "unset") 463)] 1))⟩
  xk := ⟨_, exk P⟩
  xs := xcs P
  xp := fun fd ps h1 h2 => by
    have := x67_p P
    rw [h1] at this
    dsimp only at this
    rw [h2] at this
    exact Nat.le_of_ble_eq_true this
  clm := fun C a f h => by
    have h : cond (Nat.beq C 31 && sEq a (S "__init__")) (some 28) none = some f := h
    obtain ⟨hc, h⟩ := cond_some h
    cases h
    rw [Bool.and_eq_true] at hc
    have e1 := Nat.eq_of_beq_eq_true hc.1
    have e2 := sEq_iff.mp hc.2
    subst e1 e2
    exact ⟨c31e P, c31a P, _, c31b P, c31c P, c31d P⟩
  tyx := tyx P
  xw := by
    obtain ⟨h1, h2, h3⟩ := x70_w P
    refine ⟨h1, h2, ?_⟩
    split at h3
    · rename_i attr ha; exact ⟨attr, ha, h3⟩
    · cases h3
  kp := fun f h => allN_get (k_ok P) (memN_mem h)
end Mine
end

section
open PySem PySem.W PyProof.Rows PySem.Calls
set_option Elab.async false
set_option maxRecDepth 100000
set_option linter.unusedVariables false
namespace Mine
section
variable {prog : Program} {w : World} {sc : List Int} {h₀ : Heap} {T : ITab} {K : Frag} {p : Program} {loose : List Str} {mean : ExcName → Option Value} {mg mb : Str → Option Value}
/-- a call of a function of the program without cells: its body by a proof of one's own -/
theorem call_own (G : Glb T K p loose mean mg mb h₀) {n f : Nat} {oc : Value} {od : Option Addr} {fd : FuncData} {osl : Array (Option Value)} {ps : List Str} {b : List Stmt} {as : List AV} {lc : Lc} {σ : AS} {x : Option AV × AS}
    (hk : K.lookup f = some ⟨oc, od, .func fd, osl⟩) (hpa : plainAr fd.params = some ps) (hbo : fd.body = .stmts b) (hc : fnChk K fd ps = true) (hcn : cellNames fd.scope.names = []) (hz : zipL ps as = some lc)
    {A : Around} {env : Env} {outer : List Env} {fs : Fs} {L : Addr} {m : Str → Option Value} {ρ : Nat → Addr} {news : List (Addr × Obj)} {s : Shared} {us : List Value} {Q E : Value → Shared → Prop}
    (ax : AX A env outer L fs n) (hroom : A.depth + 1 + 4 * n < recursionLimit) (S : St prog w sc h₀ fs L m σ ρ news s) (hv : LR σ.n ρ as us) (k : Kc prog w sc h₀ fs L m VR σ ρ news s x Q E)
    (body : ∀ (A' : Around) (L' : Addr) (m' : Str → Option Value) (oL : Obj) (s₁ : Shared) (Qb : Flow → Shared → Prop) (Eb : Value → Shared → Prop), A'.frames = some (envX fd.qualname fd.scope L' f fd.code [] :: env :: outer) → A'.handled = none → A'.depth = A.depth + 1 → A'.units = A.units + 3 → OutOk (env :: outer) ((L, m) :: fs) →
      Cf prog w sc h₀ ((L, m) :: fs) L' m' ⟨fd.scope, []⟩ [] lc σ ρ ((L, oL) :: news) s₁ → (∀ y, retOf (some y) = some x → KS prog w sc h₀ ((L, m) :: fs) L' σ ρ ((L, oL) :: news) s₁ y Qb Eb) → wpAny (model prog w) A' (execs b (envX fd.qualname fd.scope L' f fd.code [])) Qb Eb s₁) :
    wpAny (model prog w) A (PySem.call (.ref f) us) Q E s := by
  obtain ⟨c1, c2, c3, c4, c5, c6, c7, c8, c9, c10, c11⟩ := fnChk_eq hc
  obtain ⟨ar, hpe, rfl⟩ := plainAr_eq hpa
  have hl : (ar.map (·.arg)).length = us.length := (zipL_len hz).trans hv.len.symm
  have hbind := bind_plain (vs := us) hpe c1 c10 hl
  have X := G.X.keeps S.fr.keep
  have nolim := G.top.nolimit.keeps S.fr.keep
  have hloc : ∀ y ∈ (ar.map (·.arg)).zip us, fd.scope.names.lookup y.1 = some .local := fun y hy => allLoc_mem c11 (by
    have : y.1 ∈ ((ar.map (·.arg)).zip us).map (·.1) := List.mem_map_of_mem hy
    rw [zip_keys hl] at this
    exact this)
  have lcr := lcr_binds hz hv c10
  have fde : fd = fnOf fd.name fd.qualname fd.params b fd.scope .none .none fd.doc fd.pyModule fd.annotations fd.code fd.closureTuple := by
    obtain ⟨_, _, _, _, _, _, _, _, _, _, _, _, _, _, _⟩ := fd
    dsimp only at c1 c2 c3 c4 c5 hbo ⊢
    subst c1 c2 c3 c4 c5 hbo
    rfl
  have room : A.depth < recursionLimit := rm_lt ax.room
  have out' : OutOk (env :: outer) ((L, m) :: fs) := ⟨by rw [List.map_cons, List.map_cons, ax.frame, ax.out.1], fun e he => by
    rcases List.mem_cons.mp he with rfl | he
    · exact ax.kind
    · exact ax.out.2 e he⟩
  refine wpAny_call (codeAny_call_def (fd := fd) (body := b) (binds := (ar.map (·.arg)).zip us) room (X _ _ hk) rfl nolim (codeRec_of X c9) hbo (BindsTo.of_eq hbind) (noCells hcn) hloc (fun h₁ ns keep => ?_) c6 c7 c8)
  obtain ⟨oL, gL, S₁⟩ := S.enter (s' := { s with heap := h₁, toks := s.toks + ((ar.map (·.arg)).zip us).length }) (Nat.le_refl _) ns keep rfl
  have ce : callEnv fd s.heap.objs.size f = envX fd.qualname fd.scope s.heap.objs.size f fd.code [] := by rw [fde]; rfl
  rw [ce]
  refine body _ _ _ oL _ _ _ (Around.frames_deeper ax.fr) ax.hand rfl rfl out' ⟨S₁, lcr, trivial⟩ fun y hr => ?_
  intro m2 ρ2 news2 s2 S2 l2 N2 M2
  obtain ⟨S3, N3⟩ := S.leave S2 N2
  have M3 : Sm s s2 := (show Sm s { s with heap := h₁, toks := s.toks + ((ar.map (·.arg)).zip us).length } from ⟨rfl, rfl, rfl⟩).trans M2
  obtain ⟨y1, y2, y3⟩ := y
  cases y1 with
  | next => cases hr; exact k ρ2 _ s2 S3 N3 M3 _ rfl
  | ret v => cases hr; exact fun u hu => k ρ2 _ s2 S3 N3 M3 u hu
  | exc =>
    cases hr
    intro ev e d oe vs es kk t X2 hf2
    refine leave_sound (Around.frames_deeper ax.fr) out' rfl c8 S2 X2 fun h' news' oe' vs' S4 N4 X4 => ?_
    obtain ⟨S5, N5⟩ := S.leave S4 (N2.trans N4)
    exact k ρ2 _ _ S5 N5 (M3.trans ⟨rfl, rfl, rfl⟩) ev e d oe' vs' es kk t (Ex.leave (s := { s2 with heap := h' }) X4 S4) (fun q hq => hf2 q (.tail _ hq))
end
noncomputable def fdOf (o : Option Obj) : FuncData := match o with | some ⟨_, _, .func fd, _⟩ => fd | _ => default
noncomputable def bodyOf (fd : FuncData) : List Stmt := match fd.body with | .stmts b => b | _ => []
noncomputable def haulFd (P : Params) : FuncData := fdOf ((kf P).lookup 848)
theorem haul_at (P : Params) : (kf P).lookup 848 = some ⟨.type "function", none, .func (haulFd P), #[]⟩ := by kernel_rfl
theorem haul_ps (P : Params) : plainAr (haulFd P).params = some [S "cart", S "many"] := by kernel_rfl
theorem haul_bo (P : Params) : (haulFd P).body = .stmts (bodyOf (haulFd P)) := by kernel_rfl
theorem haul_ck (P : Params) : fnChk (kf P) (haulFd P) [S "cart", S "many"] = true := by kernel_rfl
theorem haul_cn (P : Params) : cellNames (haulFd P).scope.names = [] := by kernel_rfl
theorem haul_kd (P : Params) : lk (haulFd P).scope.names (S "cart") = some .local ∧ lk (haulFd P).scope.names (S "many") = some .local ∧ lk (haulFd P).scope.names (S "len") = some .globalImplicit := ⟨by kernel_rfl, by kernel_rfl, by kernel_rfl⟩
theorem haul_dbg : (S "cart" == S "__debug__") = false ∧ (S "many" == S "__debug__") = false ∧ (S "len" == S "__debug__") = false := ⟨by kernel_rfl, by kernel_rfl, by kernel_rfl⟩
section
variable {prog : Program} {w : World} {sc : List Int} {h₀ : Heap} {A : Around} {cn : Str} {a : Addr} {ccd : Value} {cs : Scope} {fs : Fs} {L : Addr} {m : Str → Option Value} {news : List (Addr × Obj)} {s : Shared} {E : Value → Shared → Prop}
theorem rd_key {x key : Str} {p1 p2 p3 : Pos} {kk : Nat} {d : Addr} {o : Obj} {kvs : List (Str × Value)} {v : Value} {Q : Value → Shared → Prop} (F : Fr h₀ L s.heap m) (N : News h₀ L s.heap news) (hx : m x = some (.ref d)) (hkd : lk cs.names x = some .local) (hk : cs.kind = .function) (hdb : (x == S "__debug__") = false)
    (hm : (d, o) ∈ news) (hd : o.IsDictOf (PySem.strKind prog w) kvs) (hv : valueAt kvs key = some v) (k : ∀ s', s'.heap = s.heap → Sm s s' → Q v s') :
    wpAny (model prog w) A (eval (.Subscript (.Name x p1) (.Constant (.str key) kk p2) p3) (envX cn cs L a ccd [])) Q E s := by
  refine Subscript_ (nameX_L F hx (Constant_str ?_) hk (by show cs.names.lookup x = _; rw [← lk_eq]; exact hkd) hdb)
  have N' : News h₀ L { s with toks := s.toks + 1 }.heap news := N
  have hD := kda_dict N' hm hd
  exact tail_any hD.typeIs slot_dict_getitem.lookup (wpAny_getItem_of (strKind_is _ _ _ _) hD.mapOf hv (k _ rfl ⟨rfl, rfl, rfl⟩)) (sub_eq rfl)
end
theorem ints_len : ∀ {vs : List Value} {ns : List Int}, IntsAre vs ns → vs.length = ns.length
  | _, _, .nil => rfl
  | _, _, .cons _ _ h => congrArg (· + 1) (ints_len h)
section
variable {prog : Program} {w : World} {sc : List Int} {h₀ : Heap} {p : Program} {loose : List Str} {mean : ExcName → Option Value} {mg mb : Str → Option Value} {P : Params}
theorem haul_ok (G : Glb (tab P) (kf P) p loose mean mg mb h₀) (hsc : sc.length ≤ 900) : HaulOk prog w sc h₀ := by
  intro c l m' k q t σ A env outer fs L m ρ news s Q E ax S0 hc hl K0
  refine call_own G (haul_at P) (haul_ps P) (haul_bo P) (haul_ck P) (haul_cn P) (as := [.id c, .int (Int.ofNat m')]) (lc := [(S "cart", .id c), (S "many", .int (Int.ofNat m'))]) rfl ax (rm_d1 ax.room) S0 ⟨⟨get_lt hc, rfl⟩, ⟨t, rfl⟩, trivial⟩ K0 ?_
  intro A' L' m1 oL s₁ Qb Eb hfr hh hdp hun out C kb
  obtain ⟨kd1, kd2, kd3⟩ := haul_kd P
  obtain ⟨db1, db2, db3⟩ := haul_dbg
  have hk : (haulFd P).scope.kind = .function := (fnChk_eq (haul_ck P)).2.2.2.2.2.2.2.1
  obtain ⟨vc, hc1, hc2⟩ := C.lc (S "cart") (.id c) (by kernel_rfl)
  obtain ⟨vm, hm1, hm2⟩ := C.lc (S "many") (.int (Int.ofNat m')) (by kernel_rfl)
  obtain ⟨_, rfl⟩ := hc2
  obtain ⟨tm, rfl⟩ := hm2
  have e0 : bodyOf (haulFd P) = [.AugAssign (.Subscript (.Name (S "cart") _) (.Constant (.str (S "at")) _ _) _) .Add (.Constant (.int (.ofNat 1)) _ _) _,
     .Return (some (.IfExp (.Compare (.Subscript (.Name (S "cart") _) (.Constant (.str (S "at")) _ _) _) [.LtE] [.Call (.Name (S "len") _) [.Subscript (.Name (S "cart") _) (.Constant (.str (S "of")) _ _) _] [] _] _)
       (.BinOp (.Subscript (.Subscript (.Name (S "cart") _) (.Constant (.str (S "of")) _ _) _) (.BinOp (.Subscript (.Name (S "cart") _) (.Constant (.str (S "at")) _ _) _) .Sub (.Constant (.int (.ofNat 1)) _ _) _) _) .Mod (.Name (S "many") _) _)
       (.Constant (.int (.ofNat 0)) _ _) _)) _] := rfl
  rw [e0]
  clear e0
  · skip
    obtain ⟨o, m1', m2', m3'⟩ := C.st.get hc
    obtain ⟨hln, kk, tt, kvs, hd, rfl, hq⟩ := m3'
    obtain ⟨hm0, hval, hqq⟩ := hq
    have hloc : ∀ x, lk (haulFd P).scope.names x = some .local → (envX (haulFd P).qualname (haulFd P).scope L' 848 (haulFd P).code []).kindOf x = some .local := fun x h => by rw [kindOf_env (fe := ⟨(haulFd P).scope, []⟩)]; exact h
    refine wpAny_execs_cons (wpAny_AugAssign_SubscriptAny (nameX_L C.st.fr hc1 (Constant_str ?_) hk (hloc _ kd1) db1))
    have hD := kda_dict (s := { s₁ with toks := s₁.toks + 1 }) C.st.nw m1' hd
    refine wpAny_getItem_of (strKind_is _ _ _ _) hD.mapOf (v := .int (Int.ofNat kk) tt) rfl (wpAny_Constant_int (iadd_int ?_))
    obtain ⟨g, U, Ch⟩ := updF_ex m1' C.st.sy.nd
    refine kda_set (k := S "at") C.st.fr C.st.nw U hd (strKind_is _ _ _ _) (by rw [sizeLine_eq]; show 2 ≤ _; omega) fun h' o' F' N' hd' => ?_
    have hst : stored [(Str.ofString "of", Value.ref (ρ l)), (Str.ofString "at", Value.int (Int.ofNat kk) tt)] (S "at") (.int (Int.ofNat kk + Int.ofNat 1) (s₁.toks + 1 + 1 + 1)) = [(Str.ofString "of", Value.ref (ρ l)), (Str.ofString "at", Value.int (Int.ofNat (kk + 1)) (s₁.toks + 1 + 1 + 1))] := by kernel_rfl
    rw [hst] at hd'
    obtain ⟨S2, X2⟩ := C.st.put ⟨_, hc⟩ (Ch o') F' N' (ao := .cart l q) (s' := { s₁ with heap := h', toks := s₁.toks + 1 + 1 + 1 + 1 + 1 }) ⟨hln, kk + 1, _, _, hd', rfl, hqq⟩ rfl
    have C2 : Cf prog w sc h₀ ((L, m) :: fs) L' m1 ⟨(haulFd P).scope, []⟩ [] [(S "cart", .id c), (S "many", .int (Int.ofNat m'))] (σ.put c (.cart l q)) ρ (g o') { s₁ with heap := h', toks := s₁.toks + 1 + 1 + 1 + 1 + 1 } := ⟨S2, C.lc, trivial⟩
    have ax' : AX A' (envX (haulFd P).qualname (haulFd P).scope L' 848 (haulFd P).code []) (env :: outer) L' ((L, m) :: fs) 0 := ⟨hfr, out, rfl, hk, hh, by rw [hdp]; exact rm_dn (n := 0) ax.room, by rw [hun]; exact un_dn (n := 0) ax.un⟩
    have hcl : (σ.put c (.cart l q)).get l = some .opq := by
      rw [get_put _ _ _ _ (get_lt hc)]
      by_cases e : l = c
      · subst e; rw [hl] at hc; cases hc
      · rw [if_neg e]; exact hl
    obtain ⟨ol, p1, p2, its, ep, rfl, hints⟩ := S2.get hcl
    have hsz : its.size = sc.length := by rw [← ints_len hints, Array.length_toList]
    have hmem : (ρ c, o') ∈ g o' := (Ch o').1 _ |>.mpr (.inl rfl)
    generalize hs2 : ({ s₁ with heap := h', toks := s₁.toks + 1 + 1 + 1 + 1 + 1 } : Shared) = s2 at S2 C2 p2 ⊢
    have hM2 : Sm s₁ s2 := by rw [← hs2]; exact ⟨rfl, rfl, rfl⟩
    have S2' : ∀ s', s'.heap = s2.heap → St prog w sc h₀ ((L, m) :: fs) L' m1 (σ.put c (.cart l q)) ρ (g o') s' := fun s' e => S2.of_heap e
    have C2' : ∀ s', s'.heap = s2.heap → Cf prog w sc h₀ ((L, m) :: fs) L' m1 ⟨(haulFd P).scope, []⟩ [] [(S "cart", .id c), (S "many", .int (Int.ofNat m'))] (σ.put c (.cart l q)) ρ (g o') s' := fun s' e => ⟨S2' s' e, C.lc, trivial⟩
    have fin : ∀ v s', s'.heap = s2.heap → Sm s2 s' → (∃ t, v = Value.int (hv sc kk m') t) → Qb (.ret v) s' := fun v s' e M hv => by
      have kb' := kb (.ret k, [(S "cart", .id c), (S "many", .int (Int.ofNat m'))], σ.put c (.cart l q)) rfl m1 ρ (g o') s' (S2' s' e) C.lc X2 (hM2.trans M)
      obtain ⟨t, rfl⟩ := hv
      exact kb' _ (GV.vr (hval t) _ _)
    refine wpAny_execs_cons (wpAny_Return_some (IfExp_ (wpAny_isTrue_Compare1 ?_ rfl)))
    refine rd_key S2.fr S2.nw hc1 kd1 hk db1 hmem hd' (v := .int (Int.ofNat (kk + 1)) _) rfl fun s3 h3 M3 => ?_
    refine Call_ (name_sound (fe := ⟨(haulFd P).scope, []⟩) (v := .bi .len) G (by kernel_rfl) ax' (C2' s3 h3) fun u hu => ?_)
    rw [show u = _ from hu]
    refine PyProof.Rows.callWith_builtin1 (wpAny_items_cons (rd_key (S2' s3 h3).fr (S2' s3 h3).nw hc1 kd1 hk db1 hmem hd' (v := .ref (ρ l)) rfl fun s4 h4 M4 => wpAny_items_nil ?_))
    have I4 : s4.heap.IsList (ρ l) its := ⟨_, by rw [h4, h3]; exact p2, rfl, _, rfl⟩
    refine len_list I4 (by rw [hsz]; omega) (le_int (wpAny_truthy_bool ?_))
    dsimp only
    by_cases hle : kk + 1 ≤ sc.length
    · have hdec : decide (Int.ofNat (kk + 1) ≤ (its.size : Int)) = true := decide_eq_true (by rw [hsz]; show ((kk + 1 : Nat) : Int) ≤ _; omega)
      rw [hdec, if_pos rfl]
      have h4' : s4.heap = s2.heap := h4.trans h3
      refine wpAny_BinOp (Subscript_ ?_)
      refine rd_key (s := { s4 with toks := s4.toks + 1 + 1 }) (S2' _ h4').fr (S2' _ h4').nw hc1 kd1 hk db1 hmem hd' (v := .ref (ρ l)) rfl fun s5 h5 M5 => ?_
      have h5' : s5.heap = s2.heap := h5.trans h4'
      refine wpAny_BinOp (rd_key (S2' _ h5').fr (S2' _ h5').nw hc1 kd1 hk db1 hmem hd' (v := .int (Int.ofNat (kk + 1)) _) rfl fun s6 h6 M6 => wpAny_Constant_int (sub_int ?_))
      have h6' : s6.heap = s2.heap := h6.trans h5'
      have I6 : ({ s6 with toks := s6.toks + 1 + 1 } : Shared).heap.IsList (ρ l) its.toList.toArray := ⟨_, by show s6.heap.get? _ = _; rw [h6']; exact p2, rfl, _, by rw [Array.toArray_toList]⟩
      have hkz : Int.ofNat (kk + 1) - Int.ofNat 1 = (kk : Int) := by show ((kk + 1 : Nat) : Int) - 1 = _; omega
      rw [hkz]
      refine item_anyK (ns := sc) (k := (kk : Int)) I6 hints (by omega) (by omega) (by omega) (fun tk => ?_) (sub_eq rfl)
      have h7 : ({ s6 with toks := s6.toks + 1 + 1 } : Shared).heap = s2.heap := h6'
      refine nameX_L (S2' _ h7).fr hm1 (mod_int (by show ¬ ((m' : Int) = 0); omega) ?_) hk (hloc _ kd2) db2
      refine fin _ _ h7 (((((M3.trans M4).trans ⟨rfl, rfl, rfl⟩).trans M5).trans M6).trans ⟨rfl, rfl, rfl⟩) ⟨_, congrArg (fun z => Value.int z _) ?_⟩
      unfold hv
      rw [if_pos (by omega), Int.toNat_natCast]
      congr 1
      exact Int.fmod_eq_emod_of_nonneg _ (by show (0 : Int) ≤ (m' : Int); omega)
    · have hdec : decide (Int.ofNat (kk + 1) ≤ (its.size : Int)) = false := decide_eq_false (by rw [hsz]; show ¬ ((kk + 1 : Nat) : Int) ≤ _; omega)
      rw [hdec, if_neg Bool.false_ne_true]
      have h4' : s4.heap = s2.heap := h4.trans h3
      refine wpAny_Constant_int (fin _ _ h4' ((M3.trans M4).trans ⟨rfl, rfl, rfl⟩) ⟨_, congrArg (fun z => Value.int z _) ?_⟩)
      unfold hv
      rw [if_neg (by omega)]
      rfl
end
end Mine
end

section
open PySem PySem.W PyProof.Rows PySem.Calls
set_option Elab.async false
set_option maxRecDepth 100000
set_option maxHeartbeats 0
set_option linter.unusedVariables false
namespace Mine
section
variable {prog : Program} {w : World} {A : Around} {E : Value → Shared → Prop} {s : Shared} {K : Frag} {x C : Addr} {ox : Obj} {od : Option Obj} {name : Str} {expr : Bool} {Q : Value → Shared → Prop} {v : Value}
/-- an attribute of an exception, out of its dict -/
theorem exc_attr (X : K.In s.heap) (I : InstAt s.heap x ox C od) (hga : findIn K (.ref C) "__getattribute__" = some (some (.builtin "BaseException.__getattribute__"))) (hh : findIn K (.ref C) "__getattr__" = some none)
    (hm : mroIn K C (.type "BaseException") = some true) (hf : findObj K C od name = some (.value v)) (hv : handedIn v = true) (h : Q v { s with toks := s.toks + 1 }) : wpAny (model prog w) A (getAttr (.ref x) name expr) Q E s := by
  have SL := PySem.F.excAttr_ValueError.ga
  have L0 := I.type (M := model prog w)
  have hb : Looks (model prog w) s.heap (hookBefore (.ref C)) none := looks_hook X (by show (if onTheHeap (.ref C) then findIn K (.ref C) "__getattr__" else some none) = _; rw [if_pos (by rfl)]; exact hh)
  have sub : Looks (model prog w) s.heap (isInstance (.ref x) (.type "BaseException")) true := L0.andThen (looks_mroIn X hm)
  have L1 := looks_find (M := model prog w) X I hf
  unfold getAttr getAttrBy
  refine wpAny_bind (wpAny_mkText (wpAny_holding (wpAny_bind (L0 _ _ _ _ (fun _ _ e => e) (wpAny_bind (looks_findIn X hga _ _ _ _ (fun _ _ e => e) ?_))))))
  dsimp only
  rw [show (onTheHeap (Value.ref C) && Value.builtin "BaseException.__getattribute__" == Value.builtin "object.__getattribute__") = false from by rw [show (Value.builtin "BaseException.__getattribute__" == Value.builtin "object.__getattribute__") = false from by decide +kernel, Bool.and_false], if_neg (by decide)]
  refine wpAny_bind (hb _ _ _ _ (fun _ _ e => e) (wpAny_bind (wpAny_attempt (wpAny_holding ?_))))
  unfold callGetattribute
  rw [show (expr && onTheHeap (Value.builtin "BaseException.__getattribute__")) = false from Bool.and_false _, if_neg (by decide)]
  unfold boundAndCalled
  rw [SL.bind]
  refine wpAny_bind (wpAny_pure ?_)
  show wpAny _ _ (call (.builtin "BaseException.__getattribute__") [.ref x, .str name s.toks]) _ _ _
  refine wpAny_call ?_
  refine codeAny_call_builtin SL.plain PySem.F.entry_bexc_ga ?_
  refine @check_slot (model prog w) _ _ { s with toks := s.toks + 1 } "BaseException.__getattribute__" "BaseException" "__getattribute__" (.ref x) [.str name s.toks] [] _ (by decide +kernel) (by decide +kernel) sub (PySem.F.args_bexc_ga (.ref x) (.str name s.toks)) ?_
  unfold Builtin.«object.__getattribute__»
  refine wpAny_bind (wpAny_pure (wpAny_bind (wpAny_pure (wpAny_bind (L0 _ _ _ _ (fun _ _ e => e) (wpAny_bind (L1 _ _ _ _ (fun _ _ e => e) ?_)))))))
  refine wpAny_pure ?_
  show wpAny _ _ (handedOut v) _ _ _
  rw [handedOut_of hv]
  exact wpAny_pure h
end
end Mine
end

section
open PySem PySem.W PyProof.Rows PySem.Calls
set_option Elab.async false
set_option maxRecDepth 100000
set_option linter.unusedVariables false
namespace Mine
noncomputable def wordFd (P : Params) : FuncData := fdOf ((kf P).lookup 883)
theorem word_at (P : Params) : (kf P).lookup 883 = some ⟨.type "function", none, .func (wordFd P), #[]⟩ := by kernel_rfl
theorem word_ps (P : Params) : plainAr (wordFd P).params = some [S "deed"] := by kernel_rfl
theorem word_bo (P : Params) : (wordFd P).body = .stmts (bodyOf (wordFd P)) := by kernel_rfl
theorem word_ck (P : Params) : fnChk (kf P) (wordFd P) [S "deed"] = true := by kernel_rfl
theorem word_cn (P : Params) : cellNames (wordFd P).scope.names = [] := by kernel_rfl
theorem word_kd (P : Params) : lk (wordFd P).scope.names (S "deed") = some .local ∧ lk (wordFd P).scope.names (S "fault") = some .local ∧ lk (wordFd P).scope.names (S "AdaRaise") = some .globalImplicit := ⟨by kernel_rfl, by kernel_rfl, by kernel_rfl⟩
theorem word_gl : lk gtab (S "AdaRaise") = some (.glob 70) := by kernel_rfl
theorem word_dbg : (S "deed" == S "__debug__") = false ∧ (S "fault" == S "__debug__") = false := ⟨by kernel_rfl, by kernel_rfl⟩
section
variable {prog : Program} {w : World} {sc : List Int} {h₀ : Heap} {p : Program} {loose : List Str} {mean : ExcName → Option Value} {mg mb : Str → Option Value} {P : Params}
theorem St.local_ {L : Addr} {fs : Fs} {m m' : Str → Option Value} {σ : AS} {ρ : Nat → Addr} {news : List (Addr × Obj)} {s : Shared} {h' : Heap} (S : St prog w sc h₀ fs L m σ ρ news s) (hs : Heap.SameBut L s.heap h') (hn : h'.Ns L m') : St prog w sc h₀ fs L m' σ ρ news { s with heap := h' } := by
  have nb : ∀ b o, s.heap.get? b = some o → b ≠ L → h'.get? b = some o := fun b o hb hne => (hs.2 b hne).trans hb
  exact ⟨⟨hn, fun b o hb => nb b o (S.fr.keep b o hb) (fun e => by rw [e, none_above S.fr.above] at hb; cases hb), S.fr.above⟩, fun p hp => ⟨nb _ _ (S.nw p hp).1 (S.nw p hp).2.1, (S.nw p hp).2⟩, S.sy⟩
theorem Ex.local_ {L : Addr} {fs : Fs} {fl : Option Addr} {σ : AS} {ρ : Nat → Addr} {news : List (Addr × Obj)} {h h' : Heap} {ev : Value} {e d : Addr} {oe : Obj} {vs : Array Value} {es : List DictEntry} {k : Nat} {t : Tok} (X : Ex h₀ fs L fl σ ρ news h ev e d oe vs es k t) (hs : Heap.SameBut L h h') : Ex h₀ fs L fl σ ρ news h' ev e d oe vs es k t := by
  have nb : ∀ b o, h.get? b = some o → b ≠ L → h'.get? b = some o := fun b o hb hne => (hs.2 b hne).trans hb
  refine { X with at_ := nb _ _ X.at_ X.notL, tr := ?_ }
  rcases X.tr with h1 | ⟨T, oT, ts, z, a1, a2, a3, a4, az, a5, a6, a7⟩
  · exact .inl h1
  · exact .inr ⟨T, oT, ts, z, a1, nb _ _ a2 a6, a3, a4, az, a5, a6, a7⟩
theorem word_run (G : Glb (tab P) (kf P) p loose mean mg mb h₀) {r : Rc} {n : Nat} (H : Snd prog w sc h₀ r n) {d : AV} {σ σ' : AS} {v : Option AV} {y : Option AV × AS} (hfn : isClo σ d = true) (hca : r.ca d [] σ = some (v, σ')) (hy : wordOf (some (v, σ')) = some y)
    {A' : Around} {cn : Str} {f : Addr} {ccd : Value} {cs : Scope} {outer : List Env} {fs : Fs} {L' : Addr} {m1 : Str → Option Value} {ρ : Nat → Addr} {news : List (Addr × Obj)} {s₁ : Shared} {Qb : Flow → Shared → Prop} {Eb : Value → Shared → Prop} {p0 p1 p2 p3 p4 p5 p6 p7 p8 p9 p10 : Pos} {k0 : Nat}
    (kd1 : lk cs.names (S "deed") = some .local) (kd2 : lk cs.names (S "fault") = some .local) (kd3 : lk cs.names (S "AdaRaise") = some .globalImplicit)
    (ax' : AX A' (envX cn cs L' f ccd []) outer L' fs n) (C : Cf prog w sc h₀ fs L' m1 ⟨cs, []⟩ [] [(S "deed", d)] σ ρ news s₁)
    (kb : ∀ y', retOf (some y') = some y → KS prog w sc h₀ fs L' σ ρ news s₁ y' Qb Eb) : wpAny (model prog w) A' (execs [.Try [.Expr (.Call (.Name (S "deed") p1) [] [] p2) p3] [.ExceptHandler (some (.Name (S "AdaRaise") p4)) (some (S "fault")) [.Return (some (.Attribute (.Name (S "fault") p5) (S "word") p6)) p7] p8] [] [] p0, .Return (some (.Constant (.str (S "")) k0 p9)) p10] (envX cn cs L' f ccd [])) Qb Eb s₁ := by
  obtain ⟨db1, db2⟩ := word_dbg
  have hk : cs.kind = .function := ax'.kind
  obtain ⟨vd, hd1, hd2⟩ := C.lc (S "deed") d (by kernel_rfl)
  have hloc : ∀ x, lk cs.names x = some .local → (envX cn cs L' f ccd []).kindOf x = some .local := fun x h => by rw [kindOf_env (fe := ⟨cs, []⟩)]; exact h
  have hfnat : ∃ q, vd = .ref q ∧ FnAt q s₁.heap := by
    unfold isClo at hfn
    split at hfn
    · split at hfn
      · rename_i i _ ps b cs cl q c hi
        obtain ⟨_, rfl⟩ := hd2
        obtain ⟨o, m1', m2', hcn, nm, pm, ct, doc, cl', rfl, _⟩ := C.st.get hi
        exact ⟨_, rfl, _, _, _, _, m2'⟩
      · cases hfn
    · cases hfn
  obtain ⟨q, rfl, hfat⟩ := hfnat
  · skip
    refine wpAny_execs_cons (wpAny_Try_except (wpAny_execs_cons (wpAny_Expr_any (Call_ (nameX_L C.st.fr hd1 (callWith_F0 hfat ?_) hk (hloc _ kd1) db1)) (inter_eq (fe := ⟨cs, []⟩) hk) (swaps_eq rfl))))
    refine H.ca d [] σ (v, σ') hca A' _ outer fs L' m1 ρ news s₁ (.ref q) [] _ _ ax' C.st hd2 trivial fun ρ2 news2 s2 S2 N2 M2 => ?_
    cases v with
    | some u =>
      cases hy
      intro uv _
      refine wpAny_execs_nil ?_
      dsimp only
      refine wpAny_execs_nil ?_
      refine wpAny_execs_cons (wpAny_Return_some (Constant_str ?_))
      exact kb (.ret (.str (Str.ofString "")), [], σ') rfl m1 ρ2 news2 { s2 with toks := s2.toks + 1 } (S2.of_heap rfl) (fun _ _ e => nomatch e) N2 (M2.trans ⟨rfl, rfl, rfl⟩) (.str (S "") s2.toks) ⟨_, rfl⟩
    | none =>
      cases hy
      intro ev e d' oe vs es kk t X2 hf2
      refine note_sound ax'.fr ax'.out rfl hk S2 X2 fun h3 news3 oe3 vs3 S3 N3 X3 hT3 => ?_
      refine flight_sound S3 X3 hT3 fun h4 S4 X4 => ?_
      have hev := X4.v
      subst hev
      have X := G.X.keeps S4.fr.keep
      obtain ⟨v70, g1, g2⟩ := G.gt (S "AdaRaise") (.glob 70) word_gl
      rw [show v70 = Value.ref 70 from g2] at g1
      have hT4 : ∃ T, vs3[1]? = some (.ref T) := hT3
      refine wpAny_handleBy_cons (codeAny_handlers_test ?_) (by intro z; cases z)
      refine nameX_K S4.fr G.X (topRead_of G.top) g1 ?_ hk (by rw [kindOf_env (fe := ⟨cs, []⟩)]; exact kd3) (by kernel_rfl)
      refine G.xs.same X X4.at_ X4.cls ?_
      dsimp only
      rw [if_pos rfl]
      dsimp only
      refine codeAny_handlers_suite_as ?_
      refine flight_sound S4 { X4 with tr := X4.tr.imp id (fun ⟨T, oT, ts, z, a1, a2, a3, a4, az, r⟩ => ⟨T, oT, ts, z, a1, a2, a3, a4, az.imp id (fun ⟨l, q, _⟩ => by cases q), r⟩) } hT4 fun h5 S5 X5 => ?_
      have hp : ((envX cn cs L' f ccd []).scope.kind == .class || ((envX cn cs L' f ccd []).scope.kind == .module && (envX cn cs L' f ccd []).locals != (envX cn cs L' f ccd []).globals)) = false := by
        show (cs.kind == .class || (cs.kind == .module && L' != mainGlobals)) = false
        rw [hk]; rfl
      refine wpAny_storeName_local (hloc _ kd2) S5.fr.ns (fun h6 hn6 hs6 => ?_) hp
      have S6 := S5.local_ (s := { s2 with heap := h5 }) hs6 hn6
      have X6 := X5.local_ hs6
      obtain ⟨⟨w1, w2, w3⟩, w4, attr, w5, w6⟩ := G.xw
      have I6 : InstAt h6 e oe3 70 (some (dictOf es kk)) := ⟨X6.at_, X6.cls, by unfold notCls; rw [X6.data], by rw [X6.dict]; exact (S6.nw _ X6.mem).1⟩
      refine wpAny_execs_cons (wpAny_Return_some (attr_sound rfl (nameX_L (v := .ref e) S6.fr (if_pos rfl) ?_ hk (hloc _ kd2) db2)))
      refine exc_attr (v := .str (Str.ofString "constraint_error") t) (G.X.keeps S6.fr.keep) I6 w1 w2 w3 (findObj_own w4 w5 w6 X6.word) rfl ?_
      dsimp only
      refine wpAny_nameGoes (hloc _ kd2) S6.fr.ns hp fun h7 m7 hn7 hs7 => ?_
      have S7 := S6.local_ hs7 hn7
      exact kb (.ret (.str (Str.ofString "constraint_error")), [], σ') rfl m7 ρ2 news3 _ (by exact S7.of_heap rfl) (fun _ _ e => nomatch e) (N2.trans N3) (by exact M2.trans ⟨rfl, rfl, rfl⟩) _ ⟨t, rfl⟩
theorem word_ok (G : Glb (tab P) (kf P) p loose mean mg mb h₀) : WordOk prog w sc h₀ := by
  intro r n H d σ y hfn hy A env outer fs L m ρ news s dv Q E ax S0 hd k
  have axn := ax.le (Nat.le_succ n)
  cases hca : r.ca d [] σ with
  | none => rw [hca] at hy; cases hy
  | some z =>
    obtain ⟨v, σ'⟩ := z
    rw [hca] at hy
    refine call_own G (word_at P) (word_ps P) (word_bo P) (word_ck P) (word_cn P) (as := [d]) (lc := [(S "deed", d)]) rfl axn (rm_d1 axn.room) S0 ⟨hd, trivial⟩ k ?_
    intro A' L' m1 oL s₁ Qb Eb hfr hh hdp hun out C kb
    obtain ⟨kd1, kd2, kd3⟩ := word_kd P
    have hk : (wordFd P).scope.kind = .function := (fnChk_eq (word_ck P)).2.2.2.2.2.2.2.1
    have e0 : bodyOf (wordFd P) = [.Try [.Expr (.Call (.Name (S "deed") _) [] [] _) _] [.ExceptHandler (some (.Name (S "AdaRaise") _)) (some (S "fault")) [.Return (some (.Attribute (.Name (S "fault") _) (S "word") _)) _] _] [] [] _, .Return (some (.Constant (.str (S "")) _ _)) _] := rfl
    rw [e0]
    exact word_run G H hfn hca hy kd1 kd2 kd3 ⟨hfr, out, rfl, hk, hh, by rw [hdp]; exact rm_dn ax.room, by rw [hun]; exact un_dn ax.un⟩ C kb
end
end Mine
end

section
open PySem PySem.W PyProof.Rows PySem.Calls
set_option Elab.async false
set_option maxRecDepth 100000
set_option linter.unusedVariables false
namespace Mine
/-- is there an entry of that place? -/
noncomputable def tabHas (p : Pos) : List (Nat × Nat) → Bool
  | [] => false
  | x :: r => cond (Nat.beq x.1 p.line && Nat.beq x.2 p.col) true (tabHas p r)
theorem tabHas_2 (p : Pos) (x r) : tabHas p (x :: r) = (cond (Nat.beq x.1 p.line && Nat.beq x.2 p.col) true (tabHas p r) : Bool) := rfl
theorem TPs.ok : ∀ {l : List (Nat × Nat)} {ps : List Value}, TPs l ps → TriplesOk ps
  | [], [], _ => trivial
  | (_, _) :: r, _ :: _ :: _ :: t, h => by
    obtain ⟨rfl, rfl, ⟨c, rfl⟩, h⟩ := h
    show TriplesOk t
    exact TPs.ok (l := r) h
  | [], _ :: _, h => h.elim
  | _ :: _, [], h => h.elim
  | _ :: _, [_], h => h.elim
  | _ :: _, [_, _], h => h.elim
theorem TPs.among {p : Pos} : ∀ {l : List (Nat × Nat)} {ps : List Value}, TPs l ps → tabHas p l = false → codeAmong p ps = none
  | [], [], _, _ => rfl
  | (x, y) :: r, _ :: _ :: _ :: t, h, q => by
    obtain ⟨rfl, rfl, ⟨c, rfl⟩, h⟩ := h
    rw [tabHas_2] at q
    have hb : (Nat.beq x p.line && Nat.beq y p.col) = false ∧ tabHas p r = false := by
      cases e : (Nat.beq x p.line && Nat.beq y p.col) with
      | true => rw [show (Nat.beq (x, y).1 p.line && Nat.beq (x, y).2 p.col) = true from e] at q; cases q
      | false => rw [show (Nat.beq (x, y).1 p.line && Nat.beq (x, y).2 p.col) = false from e] at q; exact ⟨rfl, q⟩
    have ih := TPs.among (l := r) h hb.2
    show (if (Int.ofNat x == ((p.line : Nat) : Int) && Int.ofNat y == ((p.col : Nat) : Int)) = true then some (Value.ref c) else codeAmong p t) = none
    have e : (Int.ofNat x == ((p.line : Nat) : Int) && Int.ofNat y == ((p.col : Nat) : Int)) = false := by
      rw [← hb.1]
      have one : ∀ i j : Nat, (Int.ofNat i == ((j : Nat) : Int)) = Nat.beq i j := fun i j => by
        by_cases q : i = j
        · subst q; rw [Nat.beq_refl]; exact beq_self_eq_true _
        · have e : Nat.beq i j = false := by
            cases e : Nat.beq i j with
            | true => exact absurd (Nat.eq_of_beq_eq_true e) q
            | false => rfl
          rw [e]
          exact beq_eq_false_iff_ne.mpr fun e => q (Int.ofNat.inj e)
      rw [one, one]
    rw [e]
    exact ih
  | [], _ :: _, h, _ => h.elim
  | _ :: _, [], h, _ => h.elim
  | _ :: _, [_], h, _ => h.elim
  | _ :: _, [_, _], h, _ => h.elim
theorem TPs.snoc {x y : Nat} {c : Addr} : ∀ {l : List (Nat × Nat)} {ps : List Value}, TPs l ps → TPs (l ++ [(x, y)]) (ps ++ [rawInt (Int.ofNat x), rawInt (Int.ofNat y), .ref c])
  | [], [], _ => ⟨rfl, rfl, ⟨c, rfl⟩, trivial⟩
  | (_, _) :: r, _ :: _ :: _ :: t, h => by
    obtain ⟨h1, h2, h3, h⟩ := h
    exact ⟨h1, h2, h3, TPs.snoc (l := r) h⟩
  | [], _ :: _, h => h.elim
  | _ :: _, [], h => h.elim
  | _ :: _, [_], h => h.elim
  | _ :: _, [_, _], h => h.elim
/-- a function made: the code table's new entry, the code, the function -/
noncomputable def mkF (σ : AS) (t : Nat) (l : List (Nat × Nat)) (p : Pos) (ps : Arguments) (b : FuncBody) (sc : Scope) (cl : List (Str × Nat)) (q : Str) : AS := ((σ.put t (.ctab (l ++ [(p.line, p.col)]))).new (.code q)).new (.fn ps b sc cl q σ.n)
section
variable {prog : Program} {w : World} {sc : List Int} {h₀ : Heap} {T : ITab} {K : Frag} {p : Program} {loose : List Str} {mean : ExcName → Option Value} {mg mb : Str → Option Value}
variable {A : Around} {cn : Str} {a : Addr} {ccd : Value} {cl : List (Str × Addr)} {outer : List Env} {fs : Fs} {L : Addr} {m : Str → Option Value} {fe : FE} {lc : Lc} {σ : AS} {ρ : Nat → Addr} {news : List (Addr × Obj)} {s : Shared} {E : Value → Shared → Prop}
theorem made_sound (G : Glb T K p loose mean mg mb h₀) {t : Nat} {l : List (Nat × Nat)} {c : Addr} {name q : Str} {ps : Arguments} {body : FuncBody} {scope : Scope} {pos : Pos} {fl : Nat} {cl' : List (Str × Nat)} {Q : Value → Shared → Prop}
    (hct : σ.get t = some (.ctab l)) (hn : tabHas pos l = false) (C : CodeHd h₀ c (ρ t)) (hcd : ccd = .ref c) (S : St prog w sc h₀ fs L m σ ρ news s) (hcl : CLR σ.n ρ fe.cl cl) (hcs : clSel fe.cl scope.names [] = some cl')
    (k : ∀ ρ' news' s', St prog w sc h₀ fs L m (mkF σ t l pos ps body scope cl' q) ρ' news' s' → Nx fs σ ρ news (mkF σ t l pos ps body scope cl' q) ρ' news' → Sm s s' → Q (.ref (ρ' (σ.n + 1))) s') :
    wpAny (model prog w) A (makeFunction name q ps body scope (envX cn fe.sc L a ccd cl) [] [] [] pos fl) Q E s := by
  obtain ⟨o, m1, m2, tb, rfl, htp⟩ := S.get hct
  obtain ⟨g, U, Ch⟩ := updF_ex m1 S.sy.nd
  obtain ⟨cs, hcs', hcr⟩ := clSel_clF hcl hcs (acc' := []) trivial
  have fin : ∀ {f c' : Addr} {oc : Obj} {vs : Array Value} {tt : Tok} {doc pm ctv : Value} {h' : Heap} {tk : Nat}, Fr h₀ L h' m →
      News h₀ L h' ((f, ({ cls := .type "function", data := .func (fnD name q ps body scope cs pm (.ref c') ctv doc) } : Obj)) :: (c', oc) :: g (tabObj (tb ++ #[rawInt pos.line, rawInt pos.col, .ref c']))) →
      oc.data = .fields vs → vs[1]? = some (.str q tt) → (∀ q ∈ news, q.1 < c') → c' < f → Q (.ref f) { s with heap := h', toks := tk } := by
    intro f c' oc vs tt doc pm ctv h' tk F' N' d1 d2 l1 l2
    obtain ⟨S1, N1⟩ := S.put ⟨_, hct⟩ (Ch (tabObj (tb ++ #[rawInt pos.line, rawInt pos.col, .ref c']))) F' (fun p hp => N' p (.tail _ (.tail _ hp))) (ao := .ctab (l ++ [(pos.line, pos.col)])) (s' := { s with heap := h', toks := tk })
      ⟨_, rfl, by rw [Array.toList_append]; exact htp.snoc⟩ rfl
    have lg : ∀ p ∈ g (tabObj (tb ++ #[rawInt pos.line, rawInt pos.col, .ref c'])), p.1 < c' := fun p hp => by
      have : p.1 ∈ (g (tabObj (tb ++ #[rawInt pos.line, rawInt pos.col, .ref c']))).map (·.1) := List.mem_map_of_mem hp
      rw [(Ch _).2] at this
      obtain ⟨z, hz, e⟩ := List.mem_map.mp this
      rw [← e]; exact l1 z hz
    obtain ⟨S2, N2⟩ := S1.alloc (x := c') (o := oc) (ao := .code q) (s' := { s with heap := h', toks := tk }) F' (fun p hp => N' p (.tail _ hp)) lg ⟨vs, tt, d1, d2⟩ rfl
    obtain ⟨S3, N3⟩ := S2.alloc (x := f) (o := { cls := .type "function", data := .func (fnD name q ps body scope cs pm (.ref c') ctv doc) }) (ao := .fn ps body scope cl' q σ.n) (s' := { s with heap := h', toks := tk }) F' N'
      (fun p hp => by
        rcases List.mem_cons.mp hp with rfl | hp
        · exact l2
        · exact Nat.lt_trans (lg p hp) l2)
      ⟨Nat.lt_succ_of_lt (Nat.lt_succ_self _), name, pm, ctv, doc, cs, by
        rw [show upd (upd ρ (σ.put t (AO.ctab (l ++ [(pos.line, pos.col)]))).n c') ((σ.put t (AO.ctab (l ++ [(pos.line, pos.col)]))).new (AO.code q)).n f σ.n = c' from (Mine.upd_ext _ (σ.n + 1) _ _ (Nat.lt_succ_self _)).trans (upd_self ..)], (hcr.mono (Nat.le_refl _) fun _ _ => rfl).mono (Nat.le_succ_of_le (Nat.le_succ _)) fun i hi => (Mine.upd_ext _ _ _ _ (Nat.lt_succ_of_lt hi)).trans (Mine.upd_ext _ _ _ _ hi)⟩ rfl
    have := k _ _ _ S3 ((N1.trans N2).trans N3) ⟨rfl, rfl, rfl⟩
    rw [show upd (upd ρ (σ.put t (AO.ctab (l ++ [(pos.line, pos.col)]))).n c') ((σ.put t (AO.ctab (l ++ [(pos.line, pos.col)]))).new (AO.code q)).n f (σ.n + 1) = f from upd_self ..] at this
    exact this
  cases body with
  | expr e => exact kla_nest S.fr S.nw G.top C hcd U htp.ok (htp.among hn) (clF_eq hcs') fun f c' oc vs tt ctv h' tk F' N' d1 d2 l1 l2 => fin F' N' d1 d2 l1 l2
  | stmts b => exact nest_K S.fr S.nw G.top C hcd U htp.ok (htp.among hn) (clF_eq hcs') fun f c' oc vs tt ctv doc h' tk F' N' d1 d2 l1 l2 => fin F' N' d1 d2 l1 l2
end
end Mine
end

section
open PySem PySem.W PyProof.Rows PySem.Calls
set_option Elab.async false
set_option maxRecDepth 100000
set_option maxHeartbeats 0
set_option linter.unusedVariables false
namespace Mine
theorem law_pars : plainAr lawD.params = some [Str.ofString "script"] := by kernel_rfl
theorem law_cells (k : Nat) : cellsFrom k lawD.scope.names [] = [(S "run", k + 1 + 1 + 1 + 1), (S "params", k + 1 + 1 + 1), (S "frame", k + 1 + 1), (S "back", k + 1), (S "actuals", k)] := by kernel_rfl
theorem law_kd : lawD.scope.kind = .function := by kernel_rfl
theorem law_co : lawD.scope.isCoroutine = false := by kernel_rfl
theorem law_gen : lawD.scope.isGenerator = false := by kernel_rfl
theorem law_loc : lk lawD.scope.names (Str.ofString "script") = some .local := by kernel_rfl
theorem law_tabs (P : Params) : noTabs (kf P) = true := by kernel_rfl
theorem law_hd (P : Params) : codeHdIn (kf P) 887 885 = true := by kernel_rfl
/-- law's first state: its code table, its cells -/
noncomputable def σ0 : AS := ⟨[(5, .cell .none), (4, .cell .none), (3, .cell .none), (2, .cell .none), (1, .cell .none), (0, .ctab [])], 6⟩
noncomputable def fe0 : FE := ⟨lawD.scope, [(S "run", 5), (S "params", 4), (S "frame", 3), (S "back", 2), (S "actuals", 1)]⟩
theorem look1 (k : Nat) : List.lookup (S "actuals") [(S "run", k + 1 + 1 + 1 + 1), (S "params", k + 1 + 1 + 1), (S "frame", k + 1 + 1), (S "back", k + 1), (S "actuals", k)] = some k := by kernel_rfl
theorem look2 (k : Nat) : List.lookup (S "back") [(S "run", k + 1 + 1 + 1 + 1), (S "params", k + 1 + 1 + 1), (S "frame", k + 1 + 1), (S "back", k + 1), (S "actuals", k)] = some (k + 1) := by kernel_rfl
theorem look3 (k : Nat) : List.lookup (S "frame") [(S "run", k + 1 + 1 + 1 + 1), (S "params", k + 1 + 1 + 1), (S "frame", k + 1 + 1), (S "back", k + 1), (S "actuals", k)] = some (k + 1 + 1) := by kernel_rfl
theorem look4 (k : Nat) : List.lookup (S "params") [(S "run", k + 1 + 1 + 1 + 1), (S "params", k + 1 + 1 + 1), (S "frame", k + 1 + 1), (S "back", k + 1), (S "actuals", k)] = some (k + 1 + 1 + 1) := by kernel_rfl
theorem look5 (k : Nat) : List.lookup (S "run") [(S "run", k + 1 + 1 + 1 + 1), (S "params", k + 1 + 1 + 1), (S "frame", k + 1 + 1), (S "back", k + 1), (S "actuals", k)] = some (k + 1 + 1 + 1 + 1) := by kernel_rfl
section
variable {prog : Program} {w : World} {sc : List Int} {p : Program} {loose : List Str} {mean : ExcName → Option Value} {mg mb : Str → Option Value}
theorem law_enter {s₁ : Shared} {fa : Addr} {o : Obj} {pm doc dV kV : Value} {ls : Addr} {R : Result → Shared → Prop} (T : Top p loose mean mg mb s₁.heap) (hT : TabsAt [(887, 885)] s₁.heap) (ho : s₁.heap.get? fa = some o)
    (hd : o.data = .func { docDef lawD.name lawD.params lawD.body lawD.scope pm (.ref 887) doc with defaults := dV, kwdefaults := kV }) (hcd : s₁.heap.CodeRec (.ref 887) lawD.name) (hD : Dflts mg s₁.heap lawD.params [] dV kV)
    (k : ∀ (L : Addr) (m : Str → Option Value) (ρ : Nat → Addr) (news : List (Addr × Obj)) (s : Shared) (cl : List (Str × Addr)), St prog w sc (ghostOf s₁.heap [(887, 885)]) [] L m σ0 ρ news s → Sm s₁ s → CLR σ0.n ρ fe0.cl cl → ρ 0 = 885 → m (Str.ofString "script") = some (.ref ls) →
      (∀ b o, s₁.heap.get? b = some o → s.heap.get? b = some o) →
      AX (callerA.deeper (envX lawD.name fe0.sc L fa (.ref 887) cl)) (envX lawD.name fe0.sc L fa (.ref 887) cl) [] L [] 60 →
      wpAny (model prog w) (callerA.deeper (envX lawD.name fe0.sc L fa (.ref 887) cl)) (execs lawD.body (envX lawD.name fe0.sc L fa (.ref 887) cl)) (fun f s' => R (.ok (.ret (match f with | .ret v => v | _ => .none))) s')
        (fun e s' => wpAny (model prog w) (callerA.deeper (envX lawD.name fe0.sc L fa (.ref 887) cl)) (leaving (envX lawD.name fe0.sc L fa (.ref 887) cl) e) (fun _ s'' => R (.error e) s'') (fun e' s'' => R (.error e') s'') s') s) :
    codeAny (model prog w) callerA (.call (.ref fa) ⟨[.ref ls], []⟩) R s₁ := by
  obtain ⟨ar, hpe, hars⟩ := plainAr_eq law_pars
  have hdV : dV = .none := by
    rcases hD.pos with h | h
    · exact h.2
    · rw [hpe] at h; exact absurd rfl h.1
  have hloc : ∀ y ∈ (ar.map (·.arg)).zip [Value.ref ls], lawD.scope.names.lookup y.1 = some .local := fun y hy => by
    rw [← hars] at hy
    rcases List.mem_cons.mp hy with rfl | hy
    · rw [← lk_eq]; exact law_loc
    · cases hy
  have hbind := bind_plain (fd := { docDef lawD.name lawD.params lawD.body lawD.scope pm (.ref 887) doc with defaults := dV, kwdefaults := kV }) (as := ar) (vs := [.ref ls]) hpe hdV (by rw [← hars]; simp) (by rw [← hars]; rfl)
  refine codeAny_call_cells (by decide +kernel) ho hd T.nolimit hcd rfl hbind rfl (fun y hy => .inl (hloc y hy)) (fun s xx => ?_) law_co law_gen law_kd
  obtain ⟨h₁, tk, rfl, keep⟩ := xx.done
  have ns := xx.toInCall.ns
  have kof : ∀ y, (callEnvC { docDef lawD.name lawD.params lawD.body lawD.scope pm (.ref 887) doc with defaults := dV, kwdefaults := kV } s₁.heap.objs.size fa).kindOf y = lawD.scope.names.lookup y := fun _ => rfl
  rw [bindL_local (fun y hy => by rw [kof]; exact hloc y hy)] at ns
  have hcl : (callEnvC { docDef lawD.name lawD.params lawD.body lawD.scope pm (.ref 887) doc with defaults := dV, kwdefaults := kV } s₁.heap.objs.size fa).cells = cellsFrom (s₁.heap.objs.size + 1) lawD.scope.names [] := rfl
  have cell := xx.cell
  rw [hcl, law_cells] at cell
  rw [bindC_local (fun y hy => by rw [kof]; exact hloc y hy)] at cell
  have F : Fr s₁.heap s₁.heap.objs.size h₁ _ := ⟨ns, keep, Nat.le_refl _⟩
  have Fg := ghost_fr hT F
  have old : s₁.heap.objs.size ≤ (ghostOf s₁.heap [(887, 885)]).objs.size + 0 := Nat.le_of_eq (hideAll_size _ _).symm
  have lt885 : 885 < s₁.heap.objs.size := Heap.lt_size (hT _ (.head _)).2
  obtain ⟨o1, g1, d1⟩ := cell _ _ (look1 _)
  obtain ⟨o2, g2, d2⟩ := cell _ _ (look2 _)
  obtain ⟨o3, g3, d3⟩ := cell _ _ (look3 _)
  obtain ⟨o4, g4, d4⟩ := cell _ _ (look4 _)
  obtain ⟨o5, g5, d5⟩ := cell _ _ (look5 _)
  have N0 : News (ghostOf s₁.heap [(887, 885)]) s₁.heap.objs.size h₁ [(885, tabObj #[])] := ghost_news hT F (news := []) (fun _ h => nomatch h)
  have fresh : ∀ i, (ghostOf s₁.heap [(887, 885)]).get? (s₁.heap.objs.size + i) = none := fun i => ghost_fresh (Heap.get?_none_of_le (Nat.le_add_right _ _))
  have add : ∀ {i : Nat} {oc : Obj} {news : List (Addr × Obj)}, News (ghostOf s₁.heap [(887, 885)]) s₁.heap.objs.size h₁ news → h₁.get? (s₁.heap.objs.size + (i + 1)) = some oc → News (ghostOf s₁.heap [(887, 885)]) s₁.heap.objs.size h₁ ((s₁.heap.objs.size + (i + 1), oc) :: news) := fun {i oc news} N g q hq => by
    rcases List.mem_cons.mp hq with rfl | hq
    · exact ⟨g, by show s₁.heap.objs.size + (i + 1) ≠ s₁.heap.objs.size; omega, fresh _⟩
    · exact N q hq
  have N1 := add (i := 0) N0 g1
  have N2 := add (i := 1) N1 g2
  have N3 := add (i := 2) N2 g3
  have N4 := add (i := 3) N3 g4
  have N5 := add (i := 4) N4 g5
  have Sz : St prog w sc (ghostOf s₁.heap [(887, 885)]) [] s₁.heap.objs.size _ ⟨[], 0⟩ (fun _ => 0) [] { s₁ with heap := h₁, toks := tk } :=
    ⟨Fg, News.nil, ⟨fun i ao h => (by cases h), fun i j hi => (by obtain ⟨_, h⟩ := hi; cases h), .nil, fun _ h => (nomatch h), fun _ h => (nomatch h)⟩⟩
  have low0 : ∀ q ∈ [((885 : Addr), (tabObj #[] : Obj))], q.1 < s₁.heap.objs.size + (0 + 1) := fun q hq => by
    rcases List.mem_cons.mp hq with rfl | hq
    · exact Nat.lt_of_lt_of_le lt885 (Nat.le_add_right _ _)
    · cases hq
  have low : ∀ {i : Nat} {oc : Obj} {news : List (Addr × Obj)}, (∀ q ∈ news, q.1 < s₁.heap.objs.size + (i + 1)) → ∀ q ∈ (s₁.heap.objs.size + (i + 1), oc) :: news, q.1 < s₁.heap.objs.size + (i + 1 + 1) := fun {i oc news} l q hq => by
    rcases List.mem_cons.mp hq with rfl | hq
    · exact Nat.lt_succ_self _
    · exact Nat.lt_succ_of_lt (l q hq)
  have low1 := low (i := 0) (oc := o1) low0
  have low2 := low (i := 1) (oc := o2) low1
  have low3 := low (i := 2) (oc := o3) low2
  have low4 := low (i := 3) (oc := o4) low3
  obtain ⟨S0, X0⟩ := Sz.alloc (x := 885) (s' := { s₁ with heap := h₁, toks := tk }) (ao := .ctab []) Fg N0 (fun _ h => (nomatch h)) ⟨#[], rfl, trivial⟩ rfl
  obtain ⟨S1, X1⟩ := S0.alloc (s' := { s₁ with heap := h₁, toks := tk }) (ao := .cell .none) Fg N1 low0 d1 rfl
  obtain ⟨S2, X2⟩ := S1.alloc (s' := { s₁ with heap := h₁, toks := tk }) (ao := .cell .none) Fg N2 low1 d2 rfl
  obtain ⟨S3, X3⟩ := S2.alloc (s' := { s₁ with heap := h₁, toks := tk }) (ao := .cell .none) Fg N3 low2 d3 rfl
  obtain ⟨S4, X4⟩ := S3.alloc (s' := { s₁ with heap := h₁, toks := tk }) (ao := .cell .none) Fg N4 low3 d4 rfl
  obtain ⟨S5, X5⟩ := S4.alloc (s' := { s₁ with heap := h₁, toks := tk }) (ao := .cell .none) Fg N5 low4 d5 rfl
  have ce : callEnvC { docDef lawD.name lawD.params lawD.body lawD.scope pm (.ref 887) doc with defaults := dV, kwdefaults := kV } s₁.heap.objs.size fa = envX lawD.name fe0.sc s₁.heap.objs.size fa (.ref 887) [(S "run", s₁.heap.objs.size + 1 + 1 + 1 + 1 + 1), (S "params", s₁.heap.objs.size + 1 + 1 + 1 + 1), (S "frame", s₁.heap.objs.size + 1 + 1 + 1), (S "back", s₁.heap.objs.size + 1 + 1), (S "actuals", s₁.heap.objs.size + 1)] := by
    rw [← law_cells]; rfl
  rw [ce]
  refine k s₁.heap.objs.size _ _ _ _ _ S5 ⟨rfl, rfl, rfl⟩ ⟨rfl, ?_, ?_, rfl, ?_, ?_, rfl, ?_, ?_, rfl, ?_, ?_, rfl, ?_, ?_, trivial⟩ ?_ ?_ keep ⟨Around.frames_deeper rfl, ⟨rfl, fun _ h => (nomatch h)⟩, rfl, law_kd, rfl, ?_, ?_⟩
  · exact (by decide : (5 : Nat) < 6)
  · rfl
  · exact (by decide : (4 : Nat) < 6)
  · rfl
  · exact (by decide : (3 : Nat) < 6)
  · rfl
  · exact (by decide : (2 : Nat) < 6)
  · rfl
  · exact (by decide : (1 : Nat) < 6)
  · rfl
  · rfl
  · rw [← hars]; rfl
  · exact (by decide +kernel : callerA.depth + 1 + 4 * 60 + 20 < recursionLimit)
  · exact (by decide +kernel : callerA.units + 3 + 8 * 60 + 100 < cLine)
end
end Mine
end

section
open PySem PySem.W PyProof.Rows PySem.Calls
set_option Elab.async false
set_option maxRecDepth 100000
set_option maxHeartbeats 0
set_option linter.unusedVariables false
namespace Mine
/-- law's body comes to True, whatever the script -/
noncomputable def LawRuns : Prop := ∀ (w : World) (ns : List Int) (p : Program) (loose : List Str) (mean : ExcName → Option Value) (mg mb : Str → Option Value) (h₀ : Heap) (L : Addr) (m : Str → Option Value) (ρ : Nat → Addr) (news : List (Addr × Obj)) (s : Shared)
  (cl : List (Str × Addr)) (fa ls : Addr) (vs : List Value) (Q : Flow → Shared → Prop) (E : Value → Shared → Prop),
  (kf w.params).In h₀ → Top p loose mean mg mb h₀ → CodeHd h₀ 887 885 → ns.length ≤ 63 → IntsAre vs ns → h₀.IsList ls vs.toArray → St PySem.Challenge.rw_rg0058_01.row.prog w (ns.take 30) h₀ [] L m σ0 ρ news s → CLR σ0.n ρ fe0.cl cl → ρ 0 = 885 → m (Str.ofString "script") = some (.ref ls) →
  AX (callerA.deeper (envX lawD.name fe0.sc L fa (.ref 887) cl)) (envX lawD.name fe0.sc L fa (.ref 887) cl) [] L [] 60 →
  (∀ σ' ρ' news' m' s' l, St PySem.Challenge.rw_rg0058_01.row.prog w (ns.take 30) h₀ [] L m' σ' ρ' news' s' → σ'.get 0 = some (.ctab l) → ρ' 0 = 885 → Sm s s' → Q (.ret (.bool true)) s') →
  wpAny (model PySem.Challenge.rw_rg0058_01.row.prog w) (callerA.deeper (envX lawD.name fe0.sc L fa (.ref 887) cl)) (execs lawD.body (envX lawD.name fe0.sc L fa (.ref 887) cl)) Q E s
theorem walk (run : LawRuns) : WalkO qv loose (XL qv []) hk.says PySem.Challenge.rw_rg0058_01.row.toRowW lawD [] fun f vs => PySem.call f vs := by
  intro w s₀ s₁ mg mb G Y fa o pm cd doc dV kV ho hd hcd hD hmg hg args vals as hpre hlay hrd hwl hlo
  have KX := km_in_of Y
  have hT8 := km_tabs_of Y
  refine Ground.open G ?_
  intro T B D TE TW
  wrow_args hpre hlay hrd hwl hlo
  rename_i ns hs0 h1 h2 h3 h4 as1 as2 ls vs as3 hL ra w1 r0 hI hr hlen hco
  refine enter_call ?_
  have hT : TabsAt [(887, 885)] s₁.heap := List.forall_mem_cons.mpr ⟨⟨codeHd_of_K (c := 887) (P := 885) KX (law_hd _), hT8 885 (.head _)⟩, fun _ h => nomatch h⟩
  refine kn_post hT (fun _ _ => rfl) ?_
  have he9 : cd = .ref 887 := law_code (x := Str.ofString "law") (c := 887) (P := 885) KX T.g (by kernel_rfl) hmg ho hd
  subst he9
  refine law_enter (prog := PySem.Challenge.rw_rg0058_01.row.prog) (w := w) (sc := ns.take 30) T hT ho hd hcd hD fun L m ρ news s cl S M hcl h885 hm keep ax => ?_
  refine run w ns _ _ _ _ _ _ L m ρ news s cl fa ls vs _ _ (ghost_K hT KX (law_tabs _)) (ghost_top hT T) (ghost_code hT).1 (by omega) hI (ghost_list hT hL) S hcl h885 hm ax ?_
  intro σ' ρ' news' m' s' l S' hl h885' M'
  have MM := M.trans M'
  obtain ⟨o, m1, m2, ps, rfl, _⟩ := S'.get hl
  refine ⟨goodW_bool S'.fr (MM.1.trans hg) (fun _ => rfl) (by kernel_rfl) MM.2.2, ⟨⟨ps, by rw [← h885']; exact m2⟩, trivial⟩⟩
theorem holds (run : LawRuns) : PySem.Challenge.rw_rg0058_01.Holds := head (walk run)
end Mine
end

section
open PySem PySem.W PyProof.Rows PySem.Calls
set_option Elab.async false
set_option maxRecDepth 100000
set_option maxHeartbeats 0
set_option linter.unusedVariables false
namespace Mine
noncomputable def hd1 (l : List Stmt) : Stmt := match l with
  | a :: _ => a
  | [] => .Pass default
/-- after the first statement -/
noncomputable def σ1 (q : List (AV × Nat)) : AS := ((σ0.new (.dct [])).new .opq).put 6 (.cart 7 q)
theorem st1_cart (q : List (AV × Nat)) : st1 fe0 (S "cart") (.id 6) [] (σ1 q) = some ([(S "cart", .id 6)], σ1 q) := by kernel_rfl
theorem law_body : lawD.body = hd1 lawD.body :: lawD.body.tail := by kernel_rfl
section
variable {prog : Program} {w : World} {ns : List Int} {h₀ : Heap} {T : ITab} {K : Frag} {p : Program} {loose : List Str} {mean : ExcName → Option Value} {mg mb : Str → Option Value}
variable {A : Around} {cn : Str} {a : Addr} {ccd : Value} {cl : List (Str × Addr)} {outer : List Env} {fs : Fs} {L : Addr} {m : Str → Option Value} {ρ : Nat → Addr} {news : List (Addr × Obj)} {s : Shared} {E : Value → Shared → Prop}
theorem first_sound (G : Glb T K p loose mean mg mb h₀) {n : Nat} {ls : Addr} {vs : List Value} {q : List (AV × Nat)} {Q : Flow → Shared → Prop} (hlen : ns.length ≤ 63) (hI : IntsAre vs ns) (hL : h₀.IsList ls vs.toArray) (hm : m (Str.ofString "script") = some (.ref ls)) (hq : QR (ns.take 30) 0 q)
    (ax : AX A (envX cn fe0.sc L a ccd cl) outer L fs n) (S₀ : St prog w (ns.take 30) h₀ fs L m σ0 ρ news s) (hcl : CLR σ0.n ρ fe0.cl cl)
    (k : KT prog w (ns.take 30) h₀ fs L σ0 ρ news s [(S "cart", .id 6)] (σ1 q) (Q .next)) : wpAny (model prog w) A (exec (hd1 lawD.body) (envX cn fe0.sc L a ccd cl)) Q E s := by
  have e : hd1 lawD.body = .Assign [.Name (S "cart") _] (.Dict [some (.Constant (.str (S "of")) _ _), some (.Constant (.str (S "at")) _ _)] [.Subscript (.Name (S "script") _) (.Slice none (some (.Constant (.int 30) _ _)) none _) _, .Constant (.int 0) _ _] _) _ := rfl
  rw [e]
  refine wpAny_Assign_Name (kdn_str rfl S₀.fr S₀.nw G.top.nolimit rfl rfl (List.cons_ne_nil _ _) (by show 2 ≤ 15; decide) fun d h' o F' N' lt _ hd => ?_) (swaps_eq rfl)
  obtain ⟨S1, X1⟩ := S₀.alloc (ao := .dct []) (s' := { s with heap := h' }) F' N' lt ⟨_, hd, trivial⟩ rfl
  refine pairTrees_cons_walk (Constant_str ?_)
  refine Subscript_ (nameX_L (m := m) (by exact S1.fr) hm ?_ law_kd (by rw [kindOf_env]; exact law_loc) (by decide +kernel))
  refine wpAny_Slice ?_
  rw [evalPart_none]
  refine wpAny_pure ?_
  rw [evalPart_some]
  refine wpAny_Constant_int ?_
  refine wpAny_pure ?_
  have hup : IntsAre (slicePick vs.toArray none (some (Int.ofNat 30)) none).toList (ns.take 30) := kmk_upto hI (by decide)
  have hvl : vs.length = ns.length := hI.length
  have keep : h'.IsList ls vs.toArray := (fun ⟨o, a1, a2⟩ => ⟨o, S1.fr.keep _ _ a1, a2⟩) hL
  refine kmk_slice_ints (c := (ns.take 30).length) S1.fr S1.nw keep .none (.int _ _) hI hup rfl (fun D ws h2 F2 N2 lt2 hi _ _ => ?_) (by with_unfolding_all rfl) (fun _ => rfl) (by rw [List.size_toArray, sizeLine_eq]; omega)
  obtain ⟨S2, X2⟩ := S1.alloc (ao := .opq) (s' := { s with heap := h2, toks := s.toks + 1 + 1 }) F2 N2 lt2 ⟨_, _, rfl, hi⟩ rfl
  refine pairTrees_cons_walk (Constant_str (wpAny_Constant_int (pairTrees_nil_walk ?_)))
  have hg : ((σ0.new (.dct [])).new .opq).get 6 = some (.dct []) := rfl
  obtain ⟨o', m1, m2, kvs, m3, m4⟩ := S2.get hg
  have hkv : kvs = [] := by cases kvs with
    | nil => rfl
    | cons _ _ => exact m4.elim
  subst hkv
  obtain ⟨g, U, Ch⟩ := updF_ex m1 S2.sy.nd
  have hd' : upd (upd ρ σ0.n d) (σ0.new (.dct [])).n D 6 = d := rfl
  rw [hd'] at U
  refine kdn_made_str S2.fr S2.nw U m3 rfl (by show [S "of", S "at"].Nodup; decide +kernel) fun h3 o2 F3 N3 hd2 => ?_
  obtain ⟨S3, X3⟩ := S2.put ⟨_, hg⟩ (by rw [hd']; exact Ch o2) F3 N3 (ao := .cart 7 q) (s' := { s with heap := h3 }) ⟨(by decide : (7 : Nat) < 8), 0, _, _, hd2, rfl, hq⟩ rfl
  have N := (X1.trans X2).trans X3
  refine st1_sound (fe := fe0) (σ := σ1 q) (st1_cart q) ax ⟨S3.of_heap rfl, fun x a' e => (nomatch e), hcl.mono N.le N.ext⟩ ⟨(by decide : (6 : Nat) < 8), rfl⟩ ?_
  exact fun m' ρ' news' s' S' l' N' M' => k m' ρ' news' s' S' l' (N.trans N') ((show Sm s _ from ⟨rfl, rfl, rfl⟩).trans M')
end
end Mine
end

section
open PySem PySem.W PyProof.Rows PySem.Calls
set_option Elab.async false
set_option maxRecDepth 100000
set_option maxHeartbeats 0
set_option linter.unusedVariables false
namespace Mine
section
variable {prog : Program} {w : World} {sc : List Int} {h₀ : Heap} {T : ITab} {K : Frag} {p : Program} {loose : List Str} {mean : ExcName → Option Value} {mg mb : Str → Option Value}
variable {A : Around} {cn : Str} {a : Addr} {ccd : Value} {cl : List (Str × Addr)} {outer : List Env} {fs : Fs} {L : Addr} {fe : FE} {E : Value → Shared → Prop} {Q : Flow → Shared → Prop}
/-- the first of the statements, then the others -/
theorem exs_app {r : Rc} {n : Nat} {rest : List Stmt} (H : SEx prog w sc h₀ r n) : ∀ {ss : List Stmt} {lc lc' : Lc} {σ σ' : AS}, exs r fe ss lc σ = some (.next, lc', σ') →
    ∀ {m : Str → Option Value} {ρ : Nat → Addr} {news : List (Addr × Obj)} {s : Shared}, AX A (envX cn fe.sc L a ccd cl) outer L fs n → Cf prog w sc h₀ fs L m fe cl lc σ ρ news s →
    KT prog w sc h₀ fs L σ ρ news s lc' σ' (fun s' => wpAny (model prog w) A (execs rest (envX cn fe.sc L a ccd cl)) Q E s') →
    wpAny (model prog w) A (execs (ss ++ rest) (envX cn fe.sc L a ccd cl)) Q E s
  | [], lc, lc', σ, σ', h, m, ρ, news, s, ax, C, k => by
    cases h
    exact k m ρ news s C.st C.lc .refl (Sm.rfl s)
  | st :: ss, lc, lc', σ, σ', h, m, ρ, news, s, ax, C, k => by
    rw [exs_2] at h
    split at h
    · rename_i lc1 σ1 hs
      refine wpAny_execs_cons (H _ _ _ _ _ hs _ _ _ _ _ _ _ _ _ _ _ _ _ _ ax C fun m' ρ' news' s' S' l' N' M' => ?_)
      exact exs_app H h ax ⟨S', l', C.cl.mono N'.le N'.ext⟩ fun m2 ρ2 news2 s2 S2 l2 N2 M2 => k m2 ρ2 news2 s2 S2 l2 (N'.trans N2) (M'.trans M2)
    · rename_i hne
      exact absurd h (hne lc' σ')
/-- where law's body stands: the objects, the names; the code table is id 0 -/
noncomputable def LS (prog : Program) (w : World) (sc : List Int) (h₀ : Heap) (L : Addr) (cl : List (Str × Addr)) (s₀ : Shared) (σ : AS) (lc : Lc) (s : Shared) : Prop :=
  ∃ m ρ news, St prog w sc h₀ [] L m σ ρ news s ∧ LcR σ.n ρ lc m ∧ CLR σ.n ρ fe0.cl cl ∧ 0 < σ.n ∧ ρ 0 = 885 ∧ Sm s₀ s
variable {s₀ s : Shared} {σ τ : AS} {lc lc' : Lc}
theorem LS.sub (X : LS prog w sc h₀ L cl s₀ σ lc s) (le : σ.n ≤ τ.n) (sub : ∀ i a, τ.get i = some a → σ.get i = some a) : LS prog w sc h₀ L cl s₀ τ lc s := by
  obtain ⟨m, ρ, news, S, l, c, z, e, M⟩ := X
  exact ⟨m, ρ, news, (S.sub le sub).1, l.mono le (fun _ _ => rfl), c.mono le (fun _ _ => rfl), Nat.lt_of_lt_of_le z le, e, M⟩
/-- a piece of law's body, on a part of the objects -/
theorem LS.part {r : Rc} {n : Nat} {pre rest : List Stmt} {sel new : List Nat} {wd : Nat} (H : SEx prog w sc h₀ r n) (ax : AX A (envX cn fe0.sc L a ccd cl) outer L [] n) (X : LS prog w sc h₀ L cl s₀ σ lc s)
    (hx : exs r fe0 pre lc ⟨pk sel σ, σ.n⟩ = some (.next, lc', τ)) (hc : (Nat.ble τ.n (σ.n + wd) && allIn (pk (sel ++ new) τ) (ky (pk sel σ)) && keysLt σ.n σ.o) = true)
    (k : ∀ s', LS prog w sc h₀ L cl s₀ ⟨pk (sel ++ new) τ ++ σ.o, σ.n + wd⟩ lc' s' → wpAny (model prog w) A (execs rest (envX cn fe0.sc L a ccd cl)) Q E s') :
    wpAny (model prog w) A (execs (pre ++ rest) (envX cn fe0.sc L a ccd cl)) Q E s := by
  obtain ⟨m, ρ, news, S, l, c, z, e, M⟩ := X
  have sub : ∀ i a, (⟨pk sel σ, σ.n⟩ : AS).get i = some a → σ.get i = some a := fun i a h => pk_get (get_fnd h)
  obtain ⟨Sp, Np⟩ := S.sub (τ := ⟨pk sel σ, σ.n⟩) (Nat.le_refl _) sub
  refine exs_app H hx ax ⟨Sp, l, c⟩ fun m' ρ' news' s' S' l' N' M' => ?_
  obtain ⟨S2, N2, c1, _⟩ := S.part (sel := sel) (new := new) hc S' N'
  exact k s' ⟨m', ρ', news', S2, l'.mono c1 (fun _ _ => rfl), c.mono N2.le N2.ext, Nat.lt_of_lt_of_le z N2.le, by rw [N2.ext 0 z]; exact e, M.trans M'⟩
/-- the end of law's body -/
theorem LS.ret {r : Rc} {n : Nat} {body : List Stmt} {l : List (Nat × Nat)} (H : SEx prog w sc h₀ r n) (ax : AX A (envX cn fe0.sc L a ccd cl) outer L [] n) (X : LS prog w sc h₀ L cl s₀ σ lc s)
    (hx : exs r fe0 body lc σ = some (.ret (.bool true), lc', τ)) (ht : τ.get 0 = some (.ctab l))
    (k : ∀ σ' ρ' news' m' s' l, St prog w sc h₀ [] L m' σ' ρ' news' s' → σ'.get 0 = some (.ctab l) → ρ' 0 = 885 → Sm s₀ s' → Q (.ret (.bool true)) s') :
    wpAny (model prog w) A (execs body (envX cn fe0.sc L a ccd cl)) Q E s := by
  obtain ⟨m, ρ, news, S, l0, c, z, e, M⟩ := X
  refine exs_sound H hx ax ⟨S, l0, c⟩ fun m' ρ' news' s' S' l' N' M' => ?_
  intro v hv
  cases hv
  exact k τ ρ' news' m' s' l S' ht (by rw [N'.ext 0 z]; exact e) (M.trans M')
end
end Mine
end

section
open PySem PySem.W PyProof.Rows PySem.Calls
set_option Elab.async false
set_option maxRecDepth 100000
set_option maxHeartbeats 0
set_option linter.unusedVariables false
namespace Mine
section
variable {prog : Program} {w : World} {sc : List Int} {h₀ : Heap} {T : ITab} {K : Frag} {p : Program} {loose : List Str} {mean : ExcName → Option Value} {mg mb : Str → Option Value}
variable {A : Around} {cn : Str} {a : Addr} {ccd : Value} {cl : List (Str × Addr)} {outer : List Env} {fs : Fs} {L : Addr} {fe : FE} {E : Value → Shared → Prop} {lc : Lc} {σ : AS} {m : Str → Option Value} {ρ : Nat → Addr} {news : List (Addr × Obj)} {s : Shared}
/-- a call of a global with a lambda as its one argument -/
theorem call_lam (G : Glb T K p loose mean mg mb h₀) {r : Rc} {n : Nat} (H : Snd prog w sc h₀ r n) {fx : Str} {fp pos lp : Pos} {ps : Arguments} {body : Expr} {scope : Scope} {g t c : Nat} {l : List (Nat × Nat)} {cl' : List (Str × Nat)} {x : Option AV × AS} {Q : Value → Shared → Prop}
    (hg : nmOf T fe fx lc σ = some (.glob g)) (hkp : T.kp g = true) (hct : σ.get t = some (.ctab l)) (hn : tabHas lp l = false) (CH : CodeHd h₀ c (ρ t)) (hcd : ccd = .ref c) (hdef : defaultsOf ps (envX cn fe.sc L a ccd cl) = ([], [])) (hcs : clSel fe.cl scope.names [] = some cl')
    (hca : r.ca (.glob g) [.id (σ.n + 1)] (mkF σ t l lp ps (.expr body) scope cl' ((envX cn fe.sc L a ccd cl).qual ++ "<lambda>")) = some x) (ax : AX A (envX cn fe.sc L a ccd cl) outer L fs n) (C : Cf prog w sc h₀ fs L m fe cl lc σ ρ news s)
    (k : Kc prog w sc h₀ fs L m VR σ ρ news s x Q E) : wpAny (model prog w) A (eval (.Call (.Name fx fp) [.Lambda ps body scope lp] [] pos) (envX cn fe.sc L a ccd cl)) Q E s := by
  refine Call_ (name_sound G hg ax C fun u hu => ?_)
  rw [show u = _ from hu]
  refine callWith_K G.X (G.kp g hkp) ?_ (star_eq rfl) (stars_plain rfl)
  refine wpAny_items_cons (kla_eval hdef (made_sound G hct hn CH hcd C.st C.cl hcs fun ρ₁ news₁ s₁ S N M => wpAny_items_nil ?_)) (star_eq rfl)
  exact ⟨G.X.keeps S.fr.keep, H.ca _ _ _ _ hca _ _ _ _ _ _ _ _ _ _ _ _ _ ax S rfl ⟨⟨Nat.lt_succ_self _, rfl⟩, trivial⟩ (k.move N M)⟩
/-- a def in a frame: the function is made and stored -/
theorem def_sound (G : Glb T K p loose mean mg mb h₀) {n : Nat} {name : Str} {pos : Pos} {ps : Arguments} {body : List Stmt} {scope : Scope} {t c : Nat} {l : List (Nat × Nat)} {cl' : List (Str × Nat)} {lc' : Lc} {σ' : AS} {Q : Flow → Shared → Prop}
    (hct : σ.get t = some (.ctab l)) (hn : tabHas pos l = false) (CH : CodeHd h₀ c (ρ t)) (hcd : ccd = .ref c) (hd0 : ps.defaults = []) (hk0 : ps.kw_defaults = []) (ha : annTrees ps none (envX cn fe.sc L a ccd cl) = []) (hcs : clSel fe.cl scope.names [] = some cl')
    (hst : st1 fe name (.id (σ.n + 1)) lc (mkF σ t l pos ps (.stmts body) scope cl' (qualnameIn (envX cn fe.sc L a ccd cl) name name)) = some (lc', σ')) (ax : AX A (envX cn fe.sc L a ccd cl) outer L fs n) (C : Cf prog w sc h₀ fs L m fe cl lc σ ρ news s)
    (k : KT prog w sc h₀ fs L σ ρ news s lc' σ' (Q .next)) : wpAny (model prog w) A (exec (.FunctionDef name ps body [] none [] scope none name pos) (envX cn fe.sc L a ccd cl)) Q E s := by
  refine nestDef_K hd0 hk0 ha (made_sound G hct hn CH hcd C.st C.cl hcs fun ρ₁ news₁ s₁ S N M => ?_)
  exact st1_sound hst ax ⟨S, C.lc.mono N.le N.ext, C.cl.mono N.le N.ext⟩ ⟨Nat.lt_succ_self _, rfl⟩ fun m' ρ' news' s' S' l' N' M' => k m' ρ' news' s' S' l' (N.trans N') (M.trans M')
theorem sEq_refl (y : Str) : sEq y y = true := sEq_iff.mpr rfl
/-- if word(lambda) != due, where the two are the same -/
theorem if_lam (G : Glb T K p loose mean mg mb h₀) {r : Rc} {n : Nat} (H : Snd prog w sc h₀ r n) {fx dx y : Str} {fp pos lp dp cp ip : Pos} {ps : Arguments} {body : Expr} {scope : Scope} {b : List Stmt} {g t c : Nat} {l : List (Nat × Nat)} {cl' : List (Str × Nat)} {σ₂ : AS} {Q : Flow → Shared → Prop}
    (hg : nmOf T fe fx lc σ = some (.glob g)) (hkp : T.kp g = true) (hct : σ.get t = some (.ctab l)) (hn : tabHas lp l = false) (CH : CodeHd h₀ c (ρ t)) (hcd : ccd = .ref c) (hdef : defaultsOf ps (envX cn fe.sc L a ccd cl) = ([], [])) (hcs : clSel fe.cl scope.names [] = some cl')
    (hca : r.ca (.glob g) [.id (σ.n + 1)] (mkF σ t l lp ps (.expr body) scope cl' ((envX cn fe.sc L a ccd cl).qual ++ "<lambda>")) = some (some (.str y), σ₂)) (hdue : nmOf T fe dx lc σ₂ = some (.str y)) (ax : AX A (envX cn fe.sc L a ccd cl) outer L fs n) (C : Cf prog w sc h₀ fs L m fe cl lc σ ρ news s)
    (k : KT prog w sc h₀ fs L σ ρ news s lc σ₂ (Q .next)) :
    wpAny (model prog w) A (exec (.If (.Compare (.Call (.Name fx fp) [.Lambda ps body scope lp] [] pos) [.NotEq] [.Name dx dp] cp) b [] ip) (envX cn fe.sc L a ccd cl)) Q E s := by
  refine wpAny_If (wpAny_isTrue_Compare1 (call_lam G H hg hkp hct hn CH hcd hdef hcs hca ax C fun ρ' news' s' S' N' M' v hv => name_sound G hdue ax (C.next S' N') fun u hu => ?_) rfl)
  refine cmp_sound G (op := .NotEq) (v := .str y) (u := .str y) (b := false) (by show notO (some (sEq y y)) = some false; rw [sEq_refl]; rfl) S' (un_lt ax.un (by decide)) hv hu (wpAny_truthy_bool ?_)
  exact wpAny_execs_nil (k _ _ _ _ S' (C.lc.mono N'.le N'.ext) N' M')
end
end Mine
end

section
open PySem PySem.W
set_option Elab.async false
set_option maxRecDepth 100000
set_option linter.unusedVariables false
namespace Mine
section
variable {T : ITab} {r : Rc} {fe : FE} {t : Expr} {body : List Stmt} {ln j m : Nat} {lc lc₂ lc₃ : Lc} {σ σ₁ σ₂ σ₃ τ : AS} {v : AV} {fl : Fl} {f : FrS}
theorem forN_step (h1 : nextOf σ j = some (some v, σ₁)) (h2 : asgT T r fe t v lc σ₁ = some (.next, lc₂, σ₂)) (h3 : turnS T r fe body ln v lc₂ σ₂ = some (.next, lc₃, σ₃)) :
    forN T r fe t body ln j (m + 1) lc σ = forN T r fe t body ln j m lc₃ σ₃ := by
  conv => lhs; rw [forN_2]
  rw [h1]; dsimp only; rw [h2]; dsimp only; rw [h3]
theorem forN_exc (h1 : nextOf σ j = some (some v, σ₁)) (h2 : asgT T r fe t v lc σ₁ = some (.next, lc₂, σ₂)) (h3 : turnS T r fe body ln v lc₂ σ₂ = some (.exc, lc₃, σ₃)) :
    forN T r fe t body ln j (m + 1) lc σ = some (.exc, lc₃, σ₃) := by
  conv => lhs; rw [forN_2]
  rw [h1]; dsimp only; rw [h2]; dsimp only; rw [h3]
theorem forN_end (h1 : nextOf σ j = some (none, σ₁)) : forN T r fe t body ln j (m + 1) lc σ = some (.next, lc, σ₁) := by
  conv => lhs; rw [forN_2]
  rw [h1]
/-- a turn on its part -/
theorem turnS_eq (hf : T.fr ln v = some f) (hx : exs r fe body lc ⟨pk f.sel σ, σ.n⟩ = some (fl, lc₂, τ)) (hc : (Nat.ble τ.n (σ.n + f.w) && allIn (pk (f.sel ++ addN σ.n f.new) τ) (ky (pk f.sel σ)) && keysLt σ.n σ.o) = true) :
    turnS T r fe body ln v lc σ = some (fl, lc₂, ⟨pk (f.sel ++ addN σ.n f.new) τ ++ σ.o, σ.n + f.w⟩) := by
  unfold turnS
  rw [hf]; dsimp only; rw [wn_eq, hx]; dsimp only; rw [wn_eq, hc]; rfl
end
theorem keysLt_mono {n k : Nat} (hk : n ≤ k) : ∀ {l : List (Nat × AO)}, keysLt n l = true → keysLt k l = true
  | [], _ => rfl
  | p :: l, h => by
    rw [keysLt_2] at h ⊢
    cases q : Nat.blt p.1 n with
    | false => rw [q] at h; cases h
    | true =>
      rw [q] at h
      rw [show Nat.blt p.1 k = true from Nat.ble_eq_true_of_le (Nat.le_trans (Nat.le_of_ble_eq_true q) hk)]
      exact keysLt_mono hk (l := l) h
theorem keysLt_app {n : Nat} : ∀ {l l' : List (Nat × AO)}, keysLt n l = true → keysLt n l' = true → keysLt n (l ++ l') = true
  | [], _, _, h => h
  | p :: l, l', h, h' => by
    rw [keysLt_2] at h
    rw [List.cons_append]
    rw [keysLt_2]
    cases q : Nat.blt p.1 n with
    | false => rw [q] at h; cases h
    | true => rw [q] at h; exact keysLt_app (l := l) h h'
theorem keysLt_pk {n : Nat} {τ : AS} (hn : τ.n ≤ n) : ∀ {l : List Nat}, keysLt n (pk l τ) = true
  | [] => rfl
  | i :: l => by
    rw [pk_2]
    split
    · rename_i a ha
      rw [keysLt_2]
      rw [show Nat.blt i n = true from Nat.ble_eq_true_of_le (Nat.lt_of_lt_of_le (get_lt ha) hn)]
      exact keysLt_pk hn (l := l)
    · exact keysLt_pk hn (l := l)
end Mine
end

section
open PySem PySem.W
set_option Elab.async false
set_option maxRecDepth 100000
set_option linter.unusedVariables false
namespace Mine
/-- a state told by a function of ids -/
abbrev GF := Nat → Option AO
noncomputable def pkG : List Nat → GF → List (Nat × AO)
  | [], _ => []
  | i :: r, G => match G i with
    | some a => (i, a) :: pkG r G
    | .none => pkG r G
theorem pkG_2  (i r G) : pkG  (i :: r) G = (match G i with
    | some a => (i, a) :: pkG r G
    | .none => pkG r G : List (Nat × AO)) := rfl
noncomputable def ovI (ids : List Nat) (l : List (Nat × AO)) (G : GF) : GF := fun i => cond (memN ids i) (match fnd l i with | some a => some a | .none => G i) (G i)
noncomputable def ptG (j : Nat) (a : AO) (G : GF) : GF := fun i => cond (Nat.beq j i) (some a) (G i)
noncomputable def rmG (j : Nat) (G : GF) : GF := fun i => cond (Nat.beq j i) .none (G i)
noncomputable def ovL (l : List (Nat × AO)) (G : GF) : GF := fun i => match fnd l i with | some a => some a | .none => G i
noncomputable def subN : List Nat → List Nat → Bool
  | [], _ => true
  | i :: r, D => cond (memN D i) (subN r D) false
theorem subN_2 (i r D) : subN (i :: r) D = (cond (memN D i) (subN r D) false : Bool) := rfl
noncomputable def ltN (n : Nat) : List Nat → Bool
  | [] => true
  | i :: r => cond (Nat.blt i n) (ltN n r) false
theorem ltN_2 (n : Nat) (i r) : ltN n (i :: r) = (cond (Nat.blt i n) (ltN n r) false : Bool) := rfl
noncomputable def RepOn (D : List Nat) (σ : AS) (G : GF) : Prop := ∀ i, memN D i = true → σ.get i = G i
theorem memN_iff {i : Nat} : ∀ {D : List Nat}, memN D i = true ↔ i ∈ D
  | [] => ⟨fun h => (nomatch h), fun h => (nomatch h)⟩
  | y :: D => by
    rw [memN_2]
    cases e : Nat.beq y i with
    | true => exact ⟨fun _ => by rw [Nat.eq_of_beq_eq_true e]; exact .head _, fun _ => rfl⟩
    | false =>
      refine ⟨fun h => .tail _ (memN_iff.mp h), fun h => ?_⟩
      rcases List.mem_cons.mp h with h | h
      · subst h; rw [Nat.beq_refl] at e; cases e
      · exact memN_iff.mpr h
theorem subN_mem {D : List Nat} : ∀ {l : List Nat}, subN l D = true → ∀ i ∈ l, memN D i = true
  | [], _, _, h => nomatch h
  | y :: l, h, i, hi => by
    rw [subN_2] at h
    cases e : memN D y with
    | false => rw [e] at h; cases h
    | true =>
      rw [e] at h
      rcases List.mem_cons.mp hi with rfl | hi
      · exact e
      · exact subN_mem (l := l) h i hi
theorem ltN_mem {n : Nat} : ∀ {l : List Nat}, ltN n l = true → ∀ i ∈ l, i < n
  | [], _, _, h => nomatch h
  | y :: l, h, i, hi => by
    rw [ltN_2] at h
    cases e : Nat.blt y n with
    | false => rw [e] at h; cases h
    | true =>
      rw [e] at h
      rcases List.mem_cons.mp hi with rfl | hi
      · exact Nat.le_of_ble_eq_true e
      · exact ltN_mem (l := l) h i hi
theorem blt_true {i n : Nat} (h : i < n) : Nat.blt i n = true := Nat.ble_eq_true_of_le h
theorem pk_rep {D : List Nat} {σ : AS} {G : GF} (R : RepOn D σ G) : ∀ {sel : List Nat}, subN sel D = true → pk sel σ = pkG sel G
  | [], _ => rfl
  | i :: r, h => by
    have hi := subN_mem h i (.head _)
    have hr : subN r D = true := by
      rw [subN_2] at h
      rw [hi] at h; exact h
    rw [pk_2, pkG_2]
    rw [R i hi, pk_rep R hr]
    try (cases G i <;> rfl)
theorem fnd_pkG {G : GF} {i : Nat} {a : AO} : ∀ {l : List Nat}, fnd (pkG l G) i = some a → i ∈ l ∧ G i = some a
  | [], h => nomatch h
  | j :: l, h => by
    rw [pkG_2] at h
    split at h
    · rename_i b hb
      rw [fnd_cons] at h
      cases e : Nat.beq j i with
      | true =>
        rw [e] at h
        cases h
        rw [← Nat.eq_of_beq_eq_true e]
        exact ⟨.head _, hb⟩
      | false => rw [e] at h; obtain ⟨x, y⟩ := fnd_pkG (l := l) h; exact ⟨.tail _ x, y⟩
    · obtain ⟨x, y⟩ := fnd_pkG (l := l) h; exact ⟨.tail _ x, y⟩
theorem fnd_pkG_mem {G : GF} {i : Nat} {a : AO} (ha : G i = some a) : ∀ {l : List Nat}, i ∈ l → fnd (pkG l G) i = some a
  | j :: l, h => by
    rw [pkG_2]
    by_cases e : j = i
    · subst e
      rw [ha]
      rw [fnd_cons, Nat.beq_refl]; rfl
    · have h := (List.mem_cons.mp h).resolve_left (fun q => e q.symm)
      have ne : Nat.beq j i = false := by
        cases q : Nat.beq j i with
        | false => rfl
        | true => exact absurd (Nat.eq_of_beq_eq_true q) e
      split
      · rw [fnd_cons, ne]; exact fnd_pkG_mem ha h
      · exact fnd_pkG_mem ha h
theorem keysLt_pkG {n : Nat} {G : GF} : ∀ {l : List Nat}, ltN n l = true → keysLt n (pkG l G) = true
  | [], _ => rfl
  | i :: l, h => by
    have hi := ltN_mem h i (.head _)
    have hr : ltN n l = true := by
      rw [ltN_2] at h
      rw [blt_true hi] at h; exact h
    rw [pkG_2]
    split
    · rw [keysLt_2]
      rw [blt_true hi]; exact keysLt_pkG hr
    · exact keysLt_pkG hr
/-- the state that holds what G tells of the ids of D -/
noncomputable def mkS (D : List Nat) (G : GF) (n : Nat) : AS := ⟨pkG D G, n⟩
theorem mkS_get {D : List Nat} {G : GF} {n i : Nat} {a : AO} (h : (mkS D G n).get i = some a) : i ∈ D ∧ G i = some a := fnd_pkG (get_fnd h)
theorem mkS_rep {D : List Nat} {G : GF} {n : Nat} (h : ltN n D = true) : RepOn D (mkS D G n) G := fun i hi => by
  have hm := memN_iff.mp hi
  cases e : G i with
  | some a => exact fnd_get (σ := mkS D G n) (fnd_pkG_mem e hm) (ltN_mem h i hm)
  | none => cases q : (mkS D G n).get i with
    | none => rfl
    | some a => rw [(mkS_get q).2] at e; cases e
theorem RepOn.sub {D D' : List Nat} {σ : AS} {G : GF} (R : RepOn D σ G) (h : subN D' D = true) : RepOn D' σ G := fun i hi => R i (subN_mem h i (memN_iff.mp hi))
theorem RepOn.put {D : List Nat} {σ : AS} {G : GF} {j : Nat} {a : AO} (R : RepOn D σ G) (hj : j < σ.n) : RepOn D (σ.put j a) (ptG j a G) := fun i hi => by
  rw [get_put σ j i a hj]
  unfold ptG
  cases e : Nat.beq j i with
  | true => rw [if_pos (Nat.eq_of_beq_eq_true e).symm]; rfl
  | false => rw [if_neg (fun h => by rw [h, Nat.beq_refl] at e; cases e), R i hi]; rfl
theorem RepOn.new {D : List Nat} {σ : AS} {G : GF} {a : AO} (R : RepOn D σ G) : RepOn D (σ.new a) (ptG σ.n a G) := fun i hi => by
  rw [get_new]
  unfold ptG
  cases e : Nat.beq σ.n i with
  | true => rw [if_pos (Nat.eq_of_beq_eq_true e).symm]; rfl
  | false => rw [if_neg (fun h => by rw [h, Nat.beq_refl] at e; cases e), R i hi]; rfl
theorem RepOn.dead {D : List Nat} {σ : AS} {G : GF} {j : Nat} (R : RepOn D σ G) : RepOn D (Mine.dead σ j j) (rmG j G) := fun i hi => by
  rw [dead_get]
  unfold rmG
  cases e : Nat.beq j i with
  | true => rw [if_pos (.inl (Nat.eq_of_beq_eq_true e).symm)]; rfl
  | false => rw [if_neg (fun h => by rcases h with h | h <;> rw [h, Nat.beq_refl] at e <;> cases e), R i hi]; rfl
theorem fnd_lt {σ : AS} {i : Nat} {a : AO} (hk : keysLt σ.n σ.o = true) (h : fnd σ.o i = some a) : σ.get i = some a := fnd_get h (keysLt_lt hk h)
theorem get_eq_fnd {σ : AS} (hk : keysLt σ.n σ.o = true) (i : Nat) : σ.get i = fnd σ.o i := by
  cases e : fnd σ.o i with
  | some a => exact fnd_lt hk e
  | none => cases q : σ.get i with
    | none => rfl
    | some a => rw [get_fnd q] at e; cases e
theorem fnd_pk_mem {τ : AS} {i : Nat} {a : AO} : ∀ {l : List Nat}, fnd (pk l τ) i = some a → i ∈ l
  | [], h => nomatch h
  | j :: l, h => by
    rw [pk_2] at h
    split at h
    · rw [fnd_cons] at h
      cases e : Nat.beq j i with
      | true => rw [← Nat.eq_of_beq_eq_true e]; exact .head _
      | false => rw [e] at h; exact .tail _ (fnd_pk_mem (l := l) h)
    · exact .tail _ (fnd_pk_mem (l := l) h)
/-- pushes ahead of a state -/
theorem RepOn.push {D : List Nat} {o : List (Nat × AO)} {l : List (Nat × AO)} {n n' : Nat} {G : GF} (R : RepOn D ⟨o, n⟩ G) (hn : n ≤ n') (hk : keysLt n o = true) (hl : keysLt n' l = true) : RepOn D ⟨l ++ o, n'⟩ (ovL l G) := fun i hi => by
  have hk' : keysLt n' (l ++ o) = true := keysLt_app hl (keysLt_mono hn hk)
  rw [get_eq_fnd (σ := ⟨l ++ o, n'⟩) hk', show (⟨l ++ o, n'⟩ : AS).o = l ++ o from rfl, fnd_app]
  unfold ovL
  have := R i hi
  rw [get_eq_fnd (σ := ⟨o, n⟩) hk] at this
  rw [← this]
  try (cases fnd l i <;> rfl)
/-- a part's work, merged: the ids named, the others -/
theorem rep_merge {D ids : List Nat} {σ τ : AS} {G : GF} {n' : Nat} (R : RepOn D σ G) (hk : keysLt σ.n σ.o = true) (hn : σ.n ≤ n') (hτ : τ.n ≤ n') : RepOn D ⟨pk ids τ ++ σ.o, n'⟩ (ovI ids (pk ids τ) G) ∧ keysLt n' (pk ids τ ++ σ.o) = true := by
  have hk' : keysLt n' (pk ids τ ++ σ.o) = true := keysLt_app (keysLt_pk hτ) (keysLt_mono hn hk)
  refine ⟨fun i hi => ?_, hk'⟩
  rw [get_eq_fnd (σ := ⟨pk ids τ ++ σ.o, n'⟩) hk', show (⟨pk ids τ ++ σ.o, n'⟩ : AS).o = pk ids τ ++ σ.o from rfl, fnd_app, ← get_eq_fnd hk, R i hi]
  unfold ovI
  cases e : memN ids i with
  | true => rfl
  | false =>
    cases q : fnd (pk ids τ) i with
    | none => rfl
    | some a => rw [memN_iff.mpr (fnd_pk_mem q)] at e; cases e
/-- what is asked of a piece's end -/
noncomputable def tsum (ids ks : List Nat) (hi : Nat) (x : Option (Fl × Lc × AS)) : Option (Fl × Lc × List (Nat × AO) × Bool) := match x with
  | .none => .none
  | some (fl, lc, τ) => some (fl, lc, pk ids τ, Nat.ble τ.n hi && allIn (pk ids τ) ks)
theorem tsum_some {ids ks : List Nat} {hi : Nat} {x : Option (Fl × Lc × AS)} {fl : Fl} {lc : Lc} {l : List (Nat × AO)} (h : tsum ids ks hi x = some (fl, lc, l, true)) : ∃ τ, x = some (fl, lc, τ) ∧ pk ids τ = l ∧ τ.n ≤ hi ∧ allIn l ks = true := by
  unfold tsum at h
  split at h
  · cases h
  · rename_i fl' lc' τ
    have h := Option.some.inj h
    have h1 := (Prod.mk.inj h).1
    have h := (Prod.mk.inj h).2
    have h2 := (Prod.mk.inj h).1
    have h := (Prod.mk.inj h).2
    have h3 := (Prod.mk.inj h).1
    have h4 := (Prod.mk.inj h).2
    rw [Bool.and_eq_true] at h4
    subst h1 h2 h3
    exact ⟨τ, rfl, rfl, Nat.le_of_ble_eq_true h4.1, h4.2⟩
section
variable {T : ITab} {r : Rc} {fe : FE} {t : Expr} {body : List Stmt} {ln j m n0 : Nat} {lc lc₁ lc₂ : Lc} {σ σ₁ τ : AS} {v : AV} {fl : Fl} {f : FrS} {D : List Nat} {G : GF} {l : List (Nat × AO)} {a : AO}
theorem turn_rep (R : RepOn D σ G) (hk : keysLt σ.n σ.o = true) (hn : σ.n = n0) (hf : T.fr ln v = some f) (hs : subN f.sel D = true)
    (hx : tsum (f.sel ++ addN n0 f.new) (ky (pkG f.sel G)) (n0 + f.w) (exs r fe body lc ⟨pkG f.sel G, n0⟩) = some (fl, lc₂, l, true)) :
    turnS T r fe body ln v lc σ = some (fl, lc₂, ⟨l ++ σ.o, n0 + f.w⟩) ∧ RepOn D ⟨l ++ σ.o, n0 + f.w⟩ (ovI (f.sel ++ addN n0 f.new) l G) ∧ keysLt (n0 + f.w) (l ++ σ.o) = true := by
  subst hn
  obtain ⟨τ, h1, h2, h3, h4⟩ := tsum_some hx
  rw [← pk_rep R hs] at h1 h4
  subst h2
  refine ⟨turnS_eq hf h1 ?_, rep_merge R hk (Nat.le_add_right _ _) h3⟩
  rw [h4, hk, Nat.ble_eq_true_of_le h3]; rfl
noncomputable def nextG (D : List Nat) (G : GF) (j : Nat) : Option (Option (AV × AO)) := match G j with
  | some (.itR i n) => cond (Nat.blt i n) (some (some (.int (Int.ofNat i), .itR (i + 1) n))) (some .none)
  | some (.itL l i) => cond (memN D l) (match G l with
    | some (.list xs) => match nthR xs i with
      | some v => some (some (v, .itL l (i + 1)))
      | .none => some .none
    | _ => .none) .none
  | _ => .none
theorem next_some (R : RepOn D σ G) (hj : memN D j = true) (h : nextG D G j = some (some (v, a))) : nextOf σ j = some (some v, σ.put j a) := by
  unfold nextG at h
  unfold nextOf
  rw [R j hj]
  split at h
  · rename_i i n hg
    try rw [hg]
    try dsimp only
    cases e : Nat.blt i n with
    | true => rw [e] at h; cases h; rfl
    | false => rw [e] at h; cases h
  · rename_i l i hg
    try rw [hg]
    try dsimp only
    obtain ⟨hm, h⟩ := cond_some h
    split at h
    · rename_i xs hl
      have : listAt σ l = some xs := by unfold listAt; rw [R l hm, hl]
      rw [this]; dsimp only
      split at h
      · rename_i v' hv
        try rw [hv]
        cases h; rfl
      · cases h
    · cases h
  · cases h
theorem next_none (R : RepOn D σ G) (hj : memN D j = true) (h : nextG D G j = some none) : nextOf σ j = some (none, dead σ j j) := by
  unfold nextG at h
  unfold nextOf
  rw [R j hj]
  split at h
  · rename_i i n hg
    try rw [hg]
    try dsimp only
    cases e : Nat.blt i n with
    | true => rw [e] at h; cases h
    | false => rfl
  · rename_i l i hg
    try rw [hg]
    try dsimp only
    obtain ⟨hm, h⟩ := cond_some h
    split at h
    · rename_i xs hl
      have : listAt σ l = some xs := by unfold listAt; rw [R l hm, hl]
      rw [this]; dsimp only
      split at h
      · cases h
      · rename_i hv
        first
          | rw [hv]
          | rfl
    · cases h
  · cases h
theorem next_lt (R : RepOn D σ G) (hj : memN D j = true) (h : nextG D G j = some (some (v, a))) : j < σ.n := by
  unfold nextG at h
  rw [← R j hj] at h
  cases q : σ.get j with
  | none => rw [q] at h; cases h
  | some b => exact get_lt q
/-- a turn of a for loop -/
theorem loop_turn (R : RepOn D σ G) (hk : keysLt σ.n σ.o = true) (hn : σ.n = n0) (hj : memN D j = true) (hnx : nextG D G j = some (some (v, a)))
    (hasg : ∀ σ', RepOn D σ' (ptG j a G) → asgT T r fe t v lc σ' = some (.next, lc₁, σ')) (hf : T.fr ln v = some f) (hs : subN f.sel D = true)
    (hx : tsum (f.sel ++ addN n0 f.new) (ky (pkG f.sel (ptG j a G))) (n0 + f.w) (exs r fe body lc₁ ⟨pkG f.sel (ptG j a G), n0⟩) = some (fl, lc₂, l, true)) :
    ∃ o, RepOn D ⟨l ++ o, n0 + f.w⟩ (ovI (f.sel ++ addN n0 f.new) l (ptG j a G)) ∧ keysLt (n0 + f.w) (l ++ o) = true ∧
      (fl = .next → ∀ m, forN T r fe t body ln j (m + 1) lc σ = forN T r fe t body ln j m lc₂ ⟨l ++ o, n0 + f.w⟩) ∧ (fl = .exc → ∀ m, forN T r fe t body ln j (m + 1) lc σ = some (.exc, lc₂, ⟨l ++ o, n0 + f.w⟩)) := by
  have lt := next_lt R hj hnx
  have R1 := R.put (a := a) lt
  have hk1 : keysLt (σ.put j a).n (σ.put j a).o = true := by
    show keysLt σ.n ((j, a) :: σ.o) = true
    rw [keysLt_2]
    rw [blt_true lt]; exact hk
  obtain ⟨h1, h2, h3⟩ := turn_rep (σ := σ.put j a) R1 hk1 hn hf hs hx
  refine ⟨(σ.put j a).o, h2, h3, ?_, ?_⟩
  · rintro rfl m
    exact forN_step (next_some R hj hnx) (hasg _ R1) h1
  · rintro rfl m
    exact forN_exc (next_some R hj hnx) (hasg _ R1) h1
theorem loop_end (R : RepOn D σ G) (hk : keysLt σ.n σ.o = true) (hj : memN D j = true) (hnx : nextG D G j = some none) :
    RepOn D (dead σ j j) (rmG j G) ∧ ∀ m, forN T r fe t body ln j (m + 1) lc σ = some (.next, lc, dead σ j j) := ⟨R.dead, fun m => forN_end (next_none R hj hnx)⟩
end
end Mine
end

section
open PySem PySem.W PyProof.Rows PySem.Calls
set_option Elab.async false
set_option maxRecDepth 100000
set_option maxHeartbeats 0
set_option linter.unusedVariables false
namespace Mine
noncomputable def dE : Expr := .Name (S "") default
noncomputable def nthStm : Nat → List Stmt → Stmt
  | 0, l => match l with
    | a :: _ => a
    | [] => .Pass default
  | n + 1, l => match l with
    | _ :: r => nthStm n r
    | [] => .Pass default
noncomputable def ifT : Stmt → Expr | .If t _ _ _ => t | _ => dE
noncomputable def ifB : Stmt → List Stmt | .If _ b _ _ => b | _ => []
noncomputable def ifP : Stmt → Pos | .If _ _ _ p => p | _ => default
noncomputable def cmA : Expr → Expr | .Compare a _ _ _ => a | _ => dE
noncomputable def cmB : Expr → List Expr | .Compare _ _ b _ => b | _ => []
noncomputable def cmP : Expr → Pos | .Compare _ _ _ p => p | _ => default
noncomputable def caF : Expr → Expr | .Call a _ _ _ => a | _ => dE
noncomputable def caE : Expr → List Expr | .Call _ o _ _ => o | _ => []
noncomputable def caP : Expr → Pos | .Call _ _ _ p => p | _ => default
noncomputable def naP : Expr → Pos | .Name _ p => p | _ => default
noncomputable def laA : Expr → Arguments | .Lambda a _ _ _ => a | _ => default
noncomputable def laB : Expr → Expr | .Lambda _ b _ _ => b | _ => dE
noncomputable def laS : Expr → Scope | .Lambda _ _ s _ => s | _ => default
noncomputable def laP : Expr → Pos | .Lambda _ _ _ p => p | _ => default
noncomputable def hdE (l : List Expr) : Expr := match l with
  | a :: _ => a
  | [] => dE
noncomputable def fdA : Stmt → Arguments | .FunctionDef _ a _ _ _ _ _ _ _ _ => a | _ => default
noncomputable def fdB : Stmt → List Stmt | .FunctionDef _ _ b _ _ _ _ _ _ _ => b | _ => []
noncomputable def fdS : Stmt → Scope | .FunctionDef _ _ _ _ _ _ s _ _ _ => s | _ => default
noncomputable def fdP : Stmt → Pos | .FunctionDef _ _ _ _ _ _ _ _ _ p => p | _ => default
noncomputable def sL (i : Nat) : Stmt := nthStm i lawD.body
theorem body_eq : lawD.body = [sL 0, sL 1, sL 2, sL 3, sL 4, sL 5, sL 6, sL 7, sL 8, sL 9, sL 10, sL 11, sL 12] := by kernel_rfl
noncomputable def lamE : Expr := hdE (caE (cmA (ifT (sL 6))))
theorem st6_eq : sL 6 = .If (.Compare (.Call (.Name (S "_law_word") (naP (caF (cmA (ifT (sL 6)))))) [.Lambda (laA lamE) (laB lamE) (laS lamE) (laP lamE)] [] (caP (cmA (ifT (sL 6))))) [.NotEq] [.Name (S "due") (naP (hdE (cmB (ifT (sL 6)))))] (cmP (ifT (sL 6)))) (ifB (sL 6)) [] (ifP (sL 6)) := by kernel_rfl
theorem st7_eq : sL 7 = .FunctionDef (S "lay") (fdA (sL 7)) (fdB (sL 7)) [] none [] (fdS (sL 7)) none (S "lay") (fdP (sL 7)) := by kernel_rfl
section
variable {prog : Program} {w : World} {sc : List Int} {h₀ : Heap} {T : ITab} {K : Frag} {p : Program} {loose : List Str} {mean : ExcName → Option Value} {mg mb : Str → Option Value}
variable {A : Around} {cn : Str} {a : Addr} {ccd : Value} {cl : List (Str × Addr)} {outer : List Env} {L : Addr} {E : Value → Shared → Prop} {Q : Flow → Shared → Prop}
variable {s₀ s : Shared} {σ τ : AS} {lc lc' : Lc} {D D' : List Nat} {G G' : GF} {n n' n1 N : Nat} {l : List (Nat × AO)} {r : Rc}
theorem LS.toG (X : LS prog w sc h₀ L cl s₀ σ lc s) (R : RepOn D σ G) (le : σ.n ≤ n) : LS prog w sc h₀ L cl s₀ (mkS D G n) lc s := X.sub le (fun i a h => by
  obtain ⟨hm, hg⟩ := mkS_get h
  rw [R i (memN_iff.mpr hm)]; exact hg)
/-- a piece of the body, on a part of the objects -/
theorem LS.piece {pre rest : List Stmt} {sel new : List Nat} (H : SEx prog w sc h₀ r N) (ax : AX A (envX cn fe0.sc L a ccd cl) outer L [] N) (X : LS prog w sc h₀ L cl s₀ (mkS D G n) lc s) (hlt : ltN n D = true) (hs : subN sel D = true)
    (hx : tsum (sel ++ new) (ky (pkG sel G)) n1 (exs r fe0 pre lc ⟨pkG sel G, n⟩) = some (.next, lc', l, true)) (h1 : n ≤ n1) (h2 : n1 ≤ n') (hD : subN D' (ky l ++ D) = true)
    (k : ∀ s', LS prog w sc h₀ L cl s₀ (mkS D' (ovI (sel ++ new) l G) n') lc' s' → wpAny (model prog w) A (execs rest (envX cn fe0.sc L a ccd cl)) Q E s') :
    wpAny (model prog w) A (execs (pre ++ rest) (envX cn fe0.sc L a ccd cl)) Q E s := by
  have R0 : RepOn D (mkS D G n) G := mkS_rep hlt
  have hk : keysLt n (pkG D G) = true := keysLt_pkG hlt
  obtain ⟨τ, g1, g2, g3, g4⟩ := tsum_some hx
  subst g2
  have g4' : allIn (pk (sel ++ new) τ) (ky (pk sel (mkS D G n))) = true := by rw [pk_rep R0 hs]; exact g4
  have g1' : exs r fe0 pre lc ⟨pk sel (mkS D G n), (mkS D G n).n⟩ = some (.next, lc', τ) := by rw [pk_rep R0 hs]; exact g1
  refine LS.part (wd := n1 - n) (new := new) H ax X g1' ?_ fun s' X' => ?_
  · rw [g4', show keysLt (mkS D G n).n (mkS D G n).o = true from hk, show Nat.ble τ.n ((mkS D G n).n + (n1 - n)) = true from Nat.ble_eq_true_of_le (by show τ.n ≤ n + (n1 - n); omega)]; rfl
  · have e : (mkS D G n).n + (n1 - n) = n1 := by show n + (n1 - n) = n1; omega
    rw [e] at X'
    obtain ⟨R, hk'⟩ := rep_merge (n' := n1) (ids := sel ++ new) R0 hk h1 g3
    refine k s' (X'.toG (fun i hi => ?_) h2)
    rcases List.mem_append.mp (memN_iff.mp (subN_mem hD i (memN_iff.mp hi))) with hi | hi
    · have : ∃ b, fnd (pk (sel ++ new) τ) i = some b := by
        cases q : fnd (pk (sel ++ new) τ) i with
        | some b => exact ⟨b, rfl⟩
        | none =>
          exfalso
          clear X' hk' hD g4' g4 hx
          revert hi q
          generalize pk (sel ++ new) τ = l
          intro hi q
          induction l with
          | nil => cases hi
          | cons p l ih =>
            rw [fnd_cons] at q
            cases e : Nat.beq p.1 i with
            | true => rw [e] at q; cases q
            | false =>
              rw [e] at q
              rcases List.mem_cons.mp hi with h | h
              · rw [h, Nat.beq_refl] at e; cases e
              · exact ih h q
      obtain ⟨b, hb⟩ := this
      rw [get_eq_fnd (σ := ⟨pk (sel ++ new) τ ++ (mkS D G n).o, n1⟩) hk', show (⟨pk (sel ++ new) τ ++ (mkS D G n).o, n1⟩ : AS).o = pk (sel ++ new) τ ++ (mkS D G n).o from rfl, fnd_app, hb]
      unfold ovI
      rw [memN_iff.mpr (fnd_pk_mem hb), hb]; rfl
    · exact R i (memN_iff.mpr hi)
/-- a piece of the body, run as a whole -/
theorem LS.whole {pre rest : List Stmt} (H : SEx prog w sc h₀ r N) (ax : AX A (envX cn fe0.sc L a ccd cl) outer L [] N) (X : LS prog w sc h₀ L cl s₀ σ lc s)
    (hx : ∃ σ', exs r fe0 pre lc σ = some (.next, lc', σ') ∧ RepOn D' σ' G' ∧ σ'.n ≤ n')
    (k : ∀ s', LS prog w sc h₀ L cl s₀ (mkS D' G' n') lc' s' → wpAny (model prog w) A (execs rest (envX cn fe0.sc L a ccd cl)) Q E s') :
    wpAny (model prog w) A (execs (pre ++ rest) (envX cn fe0.sc L a ccd cl)) Q E s := by
  obtain ⟨σ', hx, R, hn⟩ := hx
  obtain ⟨m, ρ, news, S, l, c, z, e, M⟩ := X
  refine exs_app H hx ax ⟨S, l, c⟩ fun m' ρ' news' s' S' l' N' M' => ?_
  exact k s' (LS.toG ⟨m', ρ', news', S', l', c.mono N'.le N'.ext, Nat.lt_of_lt_of_le z N'.le, by rw [N'.ext 0 z]; exact e, M.trans M'⟩ R hn)
/-- if word(lambda) != due -/
theorem LS.lam (G₀ : Glb T K p loose mean mg mb h₀) (H : Snd prog w sc h₀ r N) {rest : List Stmt} {y q : Str} {tb : List (Nat × Nat)} {cl' : List (Str × Nat)} (hcl' : clSel fe0.cl (laS lamE).names [] = some cl') (hdef : defaultsOf (laA lamE) (envX cn fe0.sc L a ccd cl) = ([], [])) (hq : (envX cn fe0.sc L a ccd cl).qual ++ Str.ofString "<lambda>" = q)
    (hg : nmOf T fe0 (S "_law_word") lc σ = some (.glob 883)) (hkp : T.kp 883 = true) (hct : σ.get 0 = some (.ctab tb)) (hn : tabHas (laP lamE) tb = false) (CH : CodeHd h₀ 887 885) (hcd : ccd = .ref 887)
    (hca : ∃ σ₂, r.ca (.glob 883) [.id (σ.n + 1)] (mkF σ 0 tb (laP lamE) (laA lamE) (.expr (laB lamE)) (laS lamE) cl' q) = some (some (.str y), σ₂) ∧ RepOn D' σ₂ G' ∧ σ₂.n ≤ n') (hdue : ∀ σ, nmOf T fe0 (S "due") lc σ = some (.str y))
    (ax : AX A (envX cn fe0.sc L a ccd cl) outer L [] N) (X : LS prog w sc h₀ L cl s₀ σ lc s)
    (k : ∀ s', LS prog w sc h₀ L cl s₀ (mkS D' G' n') lc s' → wpAny (model prog w) A (execs rest (envX cn fe0.sc L a ccd cl)) Q E s') :
    wpAny (model prog w) A (execs (sL 6 :: rest) (envX cn fe0.sc L a ccd cl)) Q E s := by
  obtain ⟨σ₂, hca, R, hn2⟩ := hca
  obtain ⟨m, ρ, news, S, l, c, z, e, M⟩ := X
  rw [st6_eq]
  refine wpAny_execs_cons (if_lam G₀ H hg hkp hct hn (by rw [e]; exact CH) hcd hdef hcl' (by subst hq; exact hca) (hdue _) ax ⟨S, l, c⟩ fun m' ρ' news' s' S' l' N' M' => ?_)
  exact k s' (LS.toG ⟨m', ρ', news', S', l', c.mono N'.le N'.ext, Nat.lt_of_lt_of_le z N'.le, by rw [N'.ext 0 z]; exact e, M.trans M'⟩ R hn2)
/-- def lay -/
theorem LS.defn (G₀ : Glb T K p loose mean mg mb h₀) {rest : List Stmt} {q : Str} {tb : List (Nat × Nat)} {cl' : List (Str × Nat)} (hcl' : clSel fe0.cl (fdS (sL 7)).names [] = some cl') (hd0 : (fdA (sL 7)).defaults = []) (hk0 : (fdA (sL 7)).kw_defaults = []) (ha : annTrees (fdA (sL 7)) none (envX cn fe0.sc L a ccd cl) = []) (hq : qualnameIn (envX cn fe0.sc L a ccd cl) (S "lay") (S "lay") = q)
    (hct : σ.get 0 = some (.ctab tb)) (hn : tabHas (fdP (sL 7)) tb = false) (CH : CodeHd h₀ 887 885) (hcd : ccd = .ref 887)
    (hst : st1 fe0 (S "lay") (.id (σ.n + 1)) lc (mkF σ 0 tb (fdP (sL 7)) (fdA (sL 7)) (.stmts (fdB (sL 7))) (fdS (sL 7)) cl' q) = some (lc', mkF σ 0 tb (fdP (sL 7)) (fdA (sL 7)) (.stmts (fdB (sL 7))) (fdS (sL 7)) cl' q))
    (ax : AX A (envX cn fe0.sc L a ccd cl) outer L [] N) (X : LS prog w sc h₀ L cl s₀ σ lc s)
    (k : ∀ s', LS prog w sc h₀ L cl s₀ (mkF σ 0 tb (fdP (sL 7)) (fdA (sL 7)) (.stmts (fdB (sL 7))) (fdS (sL 7)) cl' q) lc' s' → wpAny (model prog w) A (execs rest (envX cn fe0.sc L a ccd cl)) Q E s') :
    wpAny (model prog w) A (execs (sL 7 :: rest) (envX cn fe0.sc L a ccd cl)) Q E s := by
  obtain ⟨m, ρ, news, S, l, c, z, e, M⟩ := X
  subst hq
  rw [st7_eq]
  refine wpAny_execs_cons (def_sound G₀ hct hn (by rw [e]; exact CH) hcd hd0 hk0 ha hcl' hst ax ⟨S, l, c⟩ fun m' ρ' news' s' S' l' N' M' => ?_)
  exact k s' ⟨m', ρ', news', S', l', c.mono N'.le N'.ext, Nat.lt_of_lt_of_le z N'.le, by rw [N'.ext 0 z]; exact e, M.trans M'⟩
end
end Mine
end

section
open PySem PySem.W
set_option Elab.async false
set_option maxRecDepth 100000
set_option maxHeartbeats 0
set_option linter.unusedVariables false
namespace Mine
inductive Va | u | lo | inn | hi
inductive Mo | i | o | x
/-- the kinds of formals: numbers (hidden?), tasks (hidden?), protected objects -/
inductive Kd
  | num (h : Bool) (m : Mo) (v : Va) | tsk (h : Bool) (m : Mo) | grd (m : Mo)
section
variable {α : Type}
noncomputable def tabM (f : Mo → α) : List α := [f .i, f .o, f .x]
noncomputable def tabV (f : Va → α) : List α := [f .u, f .lo, f .inn, f .hi]
noncomputable def tab33 (f : Kd → α) : List (List (List (List α))) :=
  [[tabM (fun m => tabV fun v => f (.num false m v)), tabM (fun m => tabV fun v => f (.num true m v))], [tabM (fun m => [f (.tsk false m)]), tabM (fun m => [f (.tsk true m)])], [tabM (fun m => [f (.grd m)])]]
theorem cons_eq {a b : α} {l r : List α} (h : a :: l = b :: r) : a = b ∧ l = r := by cases h; exact ⟨rfl, rfl⟩
theorem tabM_ext {f g : Mo → α} (h : tabM f = tabM g) : ∀ m, f m = g m := by
  obtain ⟨h0, h⟩ := cons_eq h
  obtain ⟨h1, h⟩ := cons_eq h
  obtain ⟨h2, h⟩ := cons_eq h
  intro m
  cases m
  · exact h0
  · exact h1
  · exact h2
theorem tabV_ext {f g : Va → α} (h : tabV f = tabV g) : ∀ m, f m = g m := by
  obtain ⟨h0, h⟩ := cons_eq h
  obtain ⟨h1, h⟩ := cons_eq h
  obtain ⟨h2, h⟩ := cons_eq h
  obtain ⟨h3, h⟩ := cons_eq h
  intro m
  cases m
  · exact h0
  · exact h1
  · exact h2
  · exact h3
theorem tab33_ext {f g : Kd → α} (h : tab33 f = tab33 g) : ∀ κ, f κ = g κ := by
  obtain ⟨h0, h⟩ := cons_eq h
  obtain ⟨h1, h⟩ := cons_eq h
  obtain ⟨h2, h⟩ := cons_eq h
  obtain ⟨h00, h01⟩ := cons_eq h0
  obtain ⟨h01, _⟩ := cons_eq h01
  obtain ⟨h10, h11⟩ := cons_eq h1
  obtain ⟨h11, _⟩ := cons_eq h11
  obtain ⟨h20, _⟩ := cons_eq h2
  intro κ
  cases κ with
  | num h m v => cases h with
    | false => exact tabV_ext (tabM_ext h00 m) v
    | true => exact tabV_ext (tabM_ext h01 m) v
  | tsk h m => cases h with
    | false => exact (cons_eq (tabM_ext h10 m)).1
    | true => exact (cons_eq (tabM_ext h11 m)).1
  | grd m => exact (cons_eq (tabM_ext h20 m)).1
end
noncomputable def mdOf : Kd → Mo
  | .num _ m _ => m
  | .tsk _ m => m
  | .grd m => m
noncomputable def moN : Mo → Int | .i => 0 | .o => 1 | .x => 2
noncomputable def moS : Mo → Str | .i => S "in" | .o => S "out" | .x => S "inout"
noncomputable def soS : Kd → Str
  | .num h _ _ => cond h (S "hidden n") (S "n")
  | .tsk h _ => cond h (S "hidden work") (S "work")
  | .grd _ => S "guard"
/-- the draws of a formal -/
noncomputable def drV (v : Va) (k : Int) : AV := match v with | .u => .int 13 | .lo => .dr .lo k | .inn => .dr .inn k | .hi => .dr .hi k
noncomputable def drw (κ : Kd) (k : Int) (q : List (AV × Nat)) : List (AV × Nat) := match κ with
  | .num h m v => (.int (cond h 1 0), 5) :: (.int (moN m), 3) :: (drV v k, 14) :: q
  | .tsk h m => (.int (cond h 3 2), 5) :: (.int (moN m), 3) :: q
  | .grd m => (.int 4, 5) :: (.int (moN m), 3) :: q
noncomputable def vaA (v : Va) (k : Int) : AV := match v with | .u => .glob 194 | .lo => .num .lo (k - 2) | .inn => .num .inn (k - 2) | .hi => .num .hi (k - 2)
/-- the value of formal i -/
noncomputable def valA (i : Nat) (κ : Kd) (k : Int) : AV := match κ with
  | .num _ _ v => vaA v k
  | .tsk _ _ => .id (114 + 128 * i)
  | .grd _ => .id (115 + 128 * i)
noncomputable def plM (i : Nat) : Mo → AV | .i => .none | .o => .id (144 + 128 * i) | .x => .id (144 + 128 * i)
noncomputable def suA : Kd → AV
  | .num h _ _ => .id (cond h 58 18)
  | .tsk h _ => .id (cond h 62 60)
  | .grd _ => .id 64
noncomputable def kpM (κ : Kd) : AV := match mdOf κ with | .i => .none | .o => suA κ | .x => suA κ
noncomputable def duV (v : Va) (k : Int) : AV := match v with | .u => .str (S "unset") | .lo => .none | .inn => .num .inn (k - 2) | .hi => .none
noncomputable def duA (i : Nat) (κ : Kd) (k : Int) : AV := match κ with
  | .num _ m v => match m with
    | .i => duV v k
    | .o => .str (S "unset")
    | .x => duV v k
  | .tsk _ _ => .id (193 + 128 * i)
  | .grd _ => .id (193 + 128 * i)
noncomputable def fS (i : Nat) : Str := S "f" ++ Str.ofString (toString (Int.ofNat i))
noncomputable def tskD (i : Nat) : Lc := [(S "number", .int (Int.ofNat (70 + i))), (S "name", .str (S "work")), (S "master", .none), (S "state", .str (S "fresh")), (S "queues", .id (115 + 128 * i)), (S "open", .id (116 + 128 * i)), (S "wake", .none), (S "late", .none), (S "call", .none), (S "serving", .id (117 + 128 * i)), (S "masters", .id (118 + 128 * i)), (S "raised", .none), (S "answer", .none), (S "is_abnormal", .bool false), (S "inside", .int 0), (S "activator", .none), (S "pending", .int 0), (S "has_failed", .bool false), (S "stack", .id (119 + 128 * i)), (S "frame", .none), (S "result", .none), (S "bases", .id (120 + 128 * i)), (S "caught", .id (121 + 128 * i)), (S "resume", .none), (S "leaving", .none), (S "line", .int 0)]
noncomputable def grdD (i : Nat) : Lc := [(S "number", .int (Int.ofNat (80 + i))), (S "entries", .id (113 + 128 * i)), (S "queues", .id (116 + 128 * i)), (S "writer", .none), (S "readers", .id (117 + 128 * i)), (S "line", .id (118 + 128 * i)), (S "body", .none), (S "frame", .none), (S "cells", .none), (S "is_making", .bool false)]
/-- the objects behind a value -/
noncomputable def vob (i : Nat) : Kd → List (Nat × AO)
  | .num _ _ _ => []
  | .tsk _ _ => [(113 + 128 * i, .dict (tskD i)), (114 + 128 * i, .inst 835 (113 + 128 * i)), (115 + 128 * i, .dct [])]
  | .grd _ => [(113 + 128 * i, .list [.str (S "e")]), (114 + 128 * i, .dict (grdD i)), (115 + 128 * i, .inst 814 (114 + 128 * i))]
noncomputable def plO (i : Nat) : Mo → List (Nat × AO) | .i => [] | .o => [(144 + 128 * i, .tup [.str (S "cell"), .id (129 + 128 * i)])] | .x => [(144 + 128 * i, .tup [.str (S "cell"), .id (129 + 128 * i)])]
noncomputable def duO (i : Nat) : Kd → List (Nat × AO)
  | .num _ _ _ => []
  | .tsk _ _ => [(193 + 128 * i, .tup [.str (S "task"), .int (Int.ofNat (70 + i))])]
  | .grd _ => [(193 + 128 * i, .tup [.str (S "guard"), .int (Int.ofNat (80 + i))])]
noncomputable def varD (i : Nat) (v : AV) : Lc := [(S "value", v), (S "number", .int (Int.ofNat (90 + i))), (S "subtype", .none)]
noncomputable def parO (i : Nat) (κ : Kd) : List AV := [.str (fS i), .str (moS (mdOf κ)), suA κ, .none]
noncomputable def actO (i : Nat) (κ : Kd) (k : Int) : List AV := [valA i κ k, plM i (mdOf κ), kpM κ]
noncomputable def blkA (i : Nat) (κ : Kd) (k : Int) : List (Nat × AO) := (128 + 128 * i, .dict (varD i (valA i κ k))) :: (129 + 128 * i, .inst 212 (128 + 128 * i)) :: (160 + 128 * i, .tup (parO i κ)) :: (176 + 128 * i, .tup (actO i κ k)) :: (plO i (mdOf κ) ++ (vob i κ ++ duO i κ))
noncomputable def subsD : Lc := [(S "n", .id 18), (S "hidden n", .id 58), (S "work", .id 60), (S "hidden work", .id 62), (S "guard", .id 64)]
/-- ids in steps of 128 -/
noncomputable def idl (c : Nat) : Nat → Nat → List AV
  | _, 0 => []
  | i, n + 1 => .id (c + 128 * i) :: idl c (i + 1) n
noncomputable def fixA (q : List (AV × Nat)) (i : Nat) (du : List AV) : List (Nat × AO) := [(6, .cart 7 q), (7, .opq), (1, .cell (some (.id 66))), (4, .cell (some (.id 65))), (56, .dct subsD), (65, .list (idl 160 0 i)), (66, .list (idl 176 0 i)), (67, .list du), (68, .list (idl 129 0 i))]
noncomputable def lcF (r : Lc) : Lc := (S "cart", .id 6) :: (S "subtypes", .id 56) :: (S "dues", .id 67) :: (S "variables", .id 68) :: r
noncomputable def lcQ (i : Nat) (κ : Kd) (k : Int) : Lc := lcF [(S "at", .int (Int.ofNat i)), (S "sort", .str (soS κ)), (S "mode", .str (moS (mdOf κ))), (S "value", valA i κ k), (S "place", plM i (mdOf κ))]
noncomputable def forBd : Stmt → List Stmt | .For _ _ b _ _ => b | _ => []
noncomputable def turnA (P : Params) (i : Nat) (lc : Lc) (du : List AV) (q : List (AV × Nat)) (k : Int) (κ : Kd) : Option (Fl × Lc × List (Nat × AO) × Bool) :=
  tsum (selA ++ addN (72 + 128 * i) newA) selA (72 + 128 * i + 128) (exs (run (tab P) 58) fe0 (forBd (sL 3)) lc ⟨fixA (drw κ k q) i du, 72 + 128 * i⟩)
noncomputable def endA (i : Nat) (du : List AV) (q : List (AV × Nat)) (k : Int) (κ : Kd) : Option (Fl × Lc × List (Nat × AO) × Bool) :=
  some (.next, lcQ i κ k, fixA q (i + 1) (du ++ [duA i κ k]) ++ blkA i κ k, true)
theorem tA0 (P : Params) (q : List (AV × Nat)) (k : Int) : tab33 (turnA P 0 (lcF [(S "at", .int 0)]) [] q k) = tab33 (endA 0 [] q k) := by kernel_rfl
theorem tA1 (P : Params) (a b c d d0 : AV) (q : List (AV × Nat)) (k : Int) : tab33 (turnA P 1 (lcF [(S "at", .int 1), (S "sort", a), (S "mode", b), (S "value", c), (S "place", d)]) [d0] q k) = tab33 (endA 1 [d0] q k) := by kernel_rfl
theorem tA2 (P : Params) (a b c d d0 d1 : AV) (q : List (AV × Nat)) (k : Int) : tab33 (turnA P 2 (lcF [(S "at", .int 2), (S "sort", a), (S "mode", b), (S "value", c), (S "place", d)]) [d0, d1] q k) = tab33 (endA 2 [d0, d1] q k) := by kernel_rfl
theorem tA3 (P : Params) (a b c d d0 d1 d2 : AV) (q : List (AV × Nat)) (k : Int) : tab33 (turnA P 3 (lcF [(S "at", .int 3), (S "sort", a), (S "mode", b), (S "value", c), (S "place", d)]) [d0, d1, d2] q k) = tab33 (endA 3 [d0, d1, d2] q k) := by kernel_rfl
end Mine
end

section
open PySem PySem.W
set_option Elab.async false
set_option maxRecDepth 100000
set_option maxHeartbeats 0
set_option linter.unusedVariables false
namespace Mine
noncomputable def bad : Kd → Bool
  | .num _ m v => match m with
    | .i => match v with | .u => false | .lo => true | .inn => false | .hi => true
    | .o => false
    | .x => match v with | .u => false | .lo => true | .inn => false | .hi => true
  | .tsk _ _ => false
  | .grd _ => false
noncomputable def flB (κ : Kd) : Fl := cond (bad κ) .exc .next
noncomputable def tyD (kd nm : String) (num : Int) (lo hi de : AV) (b : Nat) : Lc := [(S "kind", .str (S kd)), (S "name", .str (S nm)), (S "number", .int num), (S "parent", .none), (S "low", lo), (S "high", hi), (S "literals", .id b), (S "modulus", .int 0), (S "small", .id (b + 1)), (S "index", .id (b + 2)), (S "component", .none), (S "is_constrained", .bool true), (S "discriminants", .id (b + 3)), (S "components", .id (b + 4)), (S "variant", .none), (S "designated", de), (S "is_tagged", .bool false), (S "wide", .none), (S "is_limited", .bool false), (S "is_private", .bool false), (S "is_abstract", .bool false), (S "is_constant", .bool false), (S "is_late", .bool false), (S "operations", .id (b + 5))]
noncomputable def suD (t : Nat) (c : AV) : Lc := [(S "type", .id t), (S "constraint", c)]
noncomputable def subO : List (Nat × AO) := (8, .dict (tyD "int" "n" 50 (.int (-50)) (.int 50) .none 10)) :: (9, .inst 90 8) :: (16, .tup [.str (S "range"), .int 0, .int 9]) :: (17, .dict (suD 9 (.id 16))) :: (18, .inst 111 17) ::
  (19, .dict (tyD "task" "work" 51 .none .none .none 21)) :: (20, .inst 90 19) :: (27, .dict (tyD "protected" "guard" 52 .none .none .none 29)) :: (28, .inst 90 27) :: (36, .dict (tyD "private" "veil" 53 .none .none (.id 18) 38)) :: (37, .inst 90 36) ::
  (44, .dict (tyD "private" "mist" 54 .none .none (.id 54) 46)) :: (45, .inst 90 44) :: (53, .dict (suD 20 .none)) :: (54, .inst 111 53) :: (57, .dict (suD 37 .none)) :: (58, .inst 111 57) :: (59, .dict (suD 20 .none)) :: (60, .inst 111 59) :: (61, .dict (suD 45 .none)) :: (62, .inst 111 61) :: (63, .dict (suD 28 .none)) :: (64, .inst 111 63) :: []
noncomputable def preB (i : Nat) (κ : Kd) (k : Int) (pr ar : List AV) : List (Nat × AO) := (65, .list (idl 160 0 (i + 1) ++ pr)) :: (66, .list (idl 176 0 (i + 1) ++ ar)) :: (160 + 128 * i, .tup (parO i κ)) :: (176 + 128 * i, .tup (actO i κ k)) :: (subO ++ vob i κ)
noncomputable def bdF (P : Params) (f : Nat) : List Stmt := match funK (kf P) f with
  | some fd => match stmtsOf fd with
    | some b => b
    | .none => []
  | .none => []
noncomputable def scF (P : Params) (f : Nat) : Scope := match funK (kf P) f with
  | some fd => fd.scope
  | .none => default
noncomputable def lcH0 (r : Lc) : Lc := (S "run", .id 1025) :: (S "params", .id 65) :: (S "actuals", .id 66) :: r
noncomputable def lcH (i : Nat) (κ : Kd) (k : Int) : Lc := lcH0 [(S "at", .int (Int.ofNat i)), (S "name", .str (fS i)), (S "mode", .str (moS (mdOf κ))), (S "subtype", suA κ), (S "default", .none), (S "value", valA i κ k)]
noncomputable def turnB (P : Params) (i : Nat) (lc : Lc) (pr ar : List AV) (k : Int) (κ : Kd) : Option (Fl × Lc × List (Nat × AO) × Bool) :=
  tsum (selB i) (ky (preB i κ k pr ar)) (1060 + 32 * i + 32) (exs (run (tab P) 54) ⟨scF P 790, []⟩ (forBd (nthStm 0 (bdF P 790))) lc ⟨preB i κ k pr ar, 1060 + 32 * i⟩)
noncomputable def endB (i : Nat) (pr ar : List AV) (k : Int) (κ : Kd) : Option (Fl × Lc × List (Nat × AO) × Bool) :=
  some (flB κ, lcH i κ k, preB i κ k pr ar, true)
theorem tB0 (P : Params) (pr ar : List AV) (k : Int) : tab33 (turnB P 0 (lcH0 [(S "at", .int 0)]) pr ar k) = tab33 (endB 0 pr ar k) := by kernel_rfl
theorem tB1 (P : Params) (a b c d e : AV) (pr ar : List AV) (k : Int) : tab33 (turnB P 1 (lcH0 [(S "at", .int 1), (S "name", a), (S "mode", b), (S "subtype", c), (S "default", d), (S "value", e)]) pr ar k) = tab33 (endB 1 pr ar k) := by kernel_rfl
theorem tB2 (P : Params) (a b c d e : AV) (pr ar : List AV) (k : Int) : tab33 (turnB P 2 (lcH0 [(S "at", .int 2), (S "name", a), (S "mode", b), (S "subtype", c), (S "default", d), (S "value", e)]) pr ar k) = tab33 (endB 2 pr ar k) := by kernel_rfl
theorem tB3 (P : Params) (a b c d e : AV) (pr ar : List AV) (k : Int) : tab33 (turnB P 3 (lcH0 [(S "at", .int 3), (S "name", a), (S "mode", b), (S "subtype", c), (S "default", d), (S "value", e)]) pr ar k) = tab33 (endB 3 pr ar k) := by kernel_rfl
end Mine
end

section
open PySem PySem.W
set_option Elab.async false
set_option maxRecDepth 100000
set_option maxHeartbeats 0
set_option linter.unusedVariables false
namespace Mine
noncomputable def runD : Lc := [(S "world", .none), (S "limits", .none), (S "nodes", .id 1026), (S "statements", .id 1027), (S "declarations", .id 1028), (S "cells", .id 1030), (S "task", .none), (S "steps", .int 0), (S "line", .int 0), (S "fault", .none), (S "discs", .id 1031), (S "piled", .int 0), (S "heaped", .int 0), (S "about", .none), (S "ends", .id 1032), (S "drops", .id 1033), (S "resumes", .id 1034), (S "is_free", .none), (S "activate", .none), (S "tasking", .none), (S "find_sub", .none), (S "call_function", .none), (S "dispatch_function", .none), (S "make_active", .none), (S "task_attr", .none), (S "run_entry", .none), (S "run_procedure", .none), (S "function_result", .none), (S "lay_operation", .none), (S "prot", .id 1035), (S "passed", .id 1036)]
noncomputable def frmD : Lc := [(S "parent", .none), (S "sub", .none), (S "names", .id 1039), (S "types", .id 1040)]
noncomputable def preC (i z : Nat) (κ : Kd) (k : Int) (pr ar bk : List AV) (nm : Lc) (cs : List (Nat × AO)) : List (Nat × AO) := (2, .cell (some (.id 1041))) :: (1041, .list []) :: (1282, .list bk) :: (1039, .dct nm) :: (1029, .dict [(S "last", .int (Int.ofNat z))]) :: (1025, .inst 687 1024) :: (1024, .dict runD) :: (1030, .inst 240 1029) :: (1038, .inst 666 1037) :: (1037, .dict frmD) :: (65, .list (idl 160 0 (i + 1) ++ pr)) :: (66, .list (idl 176 0 (i + 1) ++ ar)) :: (160 + 128 * i, .tup (parO i κ)) :: (176 + 128 * i, .tup (actO i κ k)) :: (subO ++ (cs ++ vob i κ))
/-- the names laid so far -/
noncomputable def nms : Nat → Nat → Lc
  | _, 0 => []
  | i, n + 1 => (fS i, .id (1297 + 64 * i)) :: nms (i + 1) n
noncomputable def layV (v : Va) (k : Int) : AV := match v with | .u => .glob 194 | .lo => .glob 194 | .inn => .num .inn (k - 2) | .hi => .glob 194
noncomputable def layA (i : Nat) (κ : Kd) (k : Int) : AV := match κ with
  | .num _ m v => match m with
    | .i => layV v k
    | .o => .glob 194
    | .x => layV v k
  | .tsk _ _ => .id (114 + 128 * i)
  | .grd _ => .id (115 + 128 * i)
noncomputable def csu (i : Nat) : Kd → AV
  | .num h _ _ => .id (cond h 58 (1305 + 64 * i))
  | .tsk h _ => .id (cond h 62 60)
  | .grd _ => .id 64
noncomputable def celD (i : Nat) (κ : Kd) (k : Int) : Lc := [(S "value", layA i κ k), (S "number", .int (Int.ofNat (i + 1))), (S "subtype", csu i κ)]
noncomputable def hasP (κ : Kd) : Bool := match mdOf κ with | .i => false | .o => true | .x => true
noncomputable def bkO (i : Nat) (κ : Kd) : List (Nat × AO) := cond (bad κ) [] (cond (hasP κ) [(1312 + 64 * i, .tup [.id (1297 + 64 * i), .id (144 + 128 * i), suA κ])] [])
noncomputable def bkA (i : Nat) (κ : Kd) : List AV := cond (hasP κ) [.id (1312 + 64 * i)] []
noncomputable def celO (i : Nat) (κ : Kd) (k : Int) : List (Nat × AO) := (1296 + 64 * i, .dict (celD i κ k)) :: (1297 + 64 * i, .inst 212 (1296 + 64 * i)) :: bkO i κ
noncomputable def lcL0 (r : Lc) : Lc := (S "run", .id 1025) :: (S "frame", .id 1038) :: (S "params", .id 65) :: (S "actuals", .id 66) :: (S "back", .id 1282) :: r
noncomputable def outC (i : Nat) (κ : Kd) (k : Int) (pr ar bk : List AV) : List (Nat × AO) := cond (bad κ) (preC i (i + 1) κ k pr ar bk (nms 0 i) (celO i κ k)) (preC i (i + 1) κ k pr ar (cond (hasP κ) (bk ++ [.id (1312 + 64 * i)]) bk) (nms 0 (i + 1)) (celO i κ k))
noncomputable def turnC (P : Params) (i : Nat) (lc : Lc) (pr ar bk : List AV) (k : Int) (κ : Kd) : Option (Fl × Lc × List (Nat × AO) × Bool) :=
  tsum (selC i) (ky (preC i i κ k pr ar bk (nms 0 i) [])) (1285 + 64 * i + 64) (exs (run (tab P) 50) ⟨scF P 783, []⟩ (forBd (nthStm 1 (bdF P 783))) lc ⟨preC i i κ k pr ar bk (nms 0 i) [], 1285 + 64 * i⟩)
noncomputable def endC (i : Nat) (lc lc' : Lc) (pr ar bk : List AV) (k : Int) (κ : Kd) : Option (Fl × Lc × List (Nat × AO) × Bool) :=
  some (flB κ, cond (bad κ) lc lc', outC i κ k pr ar bk, true)
/-- does the turn add to the list back? -/
noncomputable def adds (κ : Kd) : Bool := hasP κ && !(bad κ)
noncomputable def onlyA {α : Type} (b : Bool) (f : Kd → Option α) (κ : Kd) : Option α := cond (Bool.xor b (adds κ)) .none (f κ)
theorem tCi0 (P : Params) (pr ar bk : List AV) (k : Int) : tab33 (onlyA false (turnC P 0 (lcL0 [(S "at", .int 0)]) pr ar bk k)) = tab33 (onlyA false (endC 0 (lcL0 [(S "at", .int 0)]) (lcL0 [(S "at", .int 0), (S "cell", .id 1297)]) pr ar bk k)) := by kernel_rfl
theorem tCp00 (P : Params) (pr ar : List AV) (k : Int) : tab33 (onlyA true (turnC P 0 (lcL0 [(S "at", .int 0)]) pr ar [] k)) = tab33 (onlyA true (endC 0 (lcL0 [(S "at", .int 0)]) (lcL0 [(S "at", .int 0), (S "cell", .id 1297)]) pr ar [] k)) := by kernel_rfl
theorem tCi1 (P : Params) (c : AV) (pr ar bk : List AV) (k : Int) : tab33 (onlyA false (turnC P 1 (lcL0 [(S "at", .int 1), (S "cell", c)]) pr ar bk k)) = tab33 (onlyA false (endC 1 (lcL0 [(S "at", .int 1), (S "cell", c)]) (lcL0 [(S "at", .int 1), (S "cell", .id 1361)]) pr ar bk k)) := by kernel_rfl
theorem tCp10 (P : Params) (c : AV) (pr ar : List AV) (k : Int) : tab33 (onlyA true (turnC P 1 (lcL0 [(S "at", .int 1), (S "cell", c)]) pr ar [] k)) = tab33 (onlyA true (endC 1 (lcL0 [(S "at", .int 1), (S "cell", c)]) (lcL0 [(S "at", .int 1), (S "cell", .id 1361)]) pr ar [] k)) := by kernel_rfl
theorem tCp11 (P : Params) (c : AV) (b0 : AV) (pr ar : List AV) (k : Int) : tab33 (onlyA true (turnC P 1 (lcL0 [(S "at", .int 1), (S "cell", c)]) pr ar [b0] k)) = tab33 (onlyA true (endC 1 (lcL0 [(S "at", .int 1), (S "cell", c)]) (lcL0 [(S "at", .int 1), (S "cell", .id 1361)]) pr ar [b0] k)) := by kernel_rfl
theorem tCi2 (P : Params) (c : AV) (pr ar bk : List AV) (k : Int) : tab33 (onlyA false (turnC P 2 (lcL0 [(S "at", .int 2), (S "cell", c)]) pr ar bk k)) = tab33 (onlyA false (endC 2 (lcL0 [(S "at", .int 2), (S "cell", c)]) (lcL0 [(S "at", .int 2), (S "cell", .id 1425)]) pr ar bk k)) := by kernel_rfl
theorem tCp20 (P : Params) (c : AV) (pr ar : List AV) (k : Int) : tab33 (onlyA true (turnC P 2 (lcL0 [(S "at", .int 2), (S "cell", c)]) pr ar [] k)) = tab33 (onlyA true (endC 2 (lcL0 [(S "at", .int 2), (S "cell", c)]) (lcL0 [(S "at", .int 2), (S "cell", .id 1425)]) pr ar [] k)) := by kernel_rfl
theorem tCp21 (P : Params) (c : AV) (b0 : AV) (pr ar : List AV) (k : Int) : tab33 (onlyA true (turnC P 2 (lcL0 [(S "at", .int 2), (S "cell", c)]) pr ar [b0] k)) = tab33 (onlyA true (endC 2 (lcL0 [(S "at", .int 2), (S "cell", c)]) (lcL0 [(S "at", .int 2), (S "cell", .id 1425)]) pr ar [b0] k)) := by kernel_rfl
theorem tCp22 (P : Params) (c : AV) (b0 b1 : AV) (pr ar : List AV) (k : Int) : tab33 (onlyA true (turnC P 2 (lcL0 [(S "at", .int 2), (S "cell", c)]) pr ar [b0, b1] k)) = tab33 (onlyA true (endC 2 (lcL0 [(S "at", .int 2), (S "cell", c)]) (lcL0 [(S "at", .int 2), (S "cell", .id 1425)]) pr ar [b0, b1] k)) := by kernel_rfl
theorem tCi3 (P : Params) (c : AV) (pr ar bk : List AV) (k : Int) : tab33 (onlyA false (turnC P 3 (lcL0 [(S "at", .int 3), (S "cell", c)]) pr ar bk k)) = tab33 (onlyA false (endC 3 (lcL0 [(S "at", .int 3), (S "cell", c)]) (lcL0 [(S "at", .int 3), (S "cell", .id 1489)]) pr ar bk k)) := by kernel_rfl
theorem tCp30 (P : Params) (c : AV) (pr ar : List AV) (k : Int) : tab33 (onlyA true (turnC P 3 (lcL0 [(S "at", .int 3), (S "cell", c)]) pr ar [] k)) = tab33 (onlyA true (endC 3 (lcL0 [(S "at", .int 3), (S "cell", c)]) (lcL0 [(S "at", .int 3), (S "cell", .id 1489)]) pr ar [] k)) := by kernel_rfl
theorem tCp31 (P : Params) (c : AV) (b0 : AV) (pr ar : List AV) (k : Int) : tab33 (onlyA true (turnC P 3 (lcL0 [(S "at", .int 3), (S "cell", c)]) pr ar [b0] k)) = tab33 (onlyA true (endC 3 (lcL0 [(S "at", .int 3), (S "cell", c)]) (lcL0 [(S "at", .int 3), (S "cell", .id 1489)]) pr ar [b0] k)) := by kernel_rfl
theorem tCp32 (P : Params) (c : AV) (b0 b1 : AV) (pr ar : List AV) (k : Int) : tab33 (onlyA true (turnC P 3 (lcL0 [(S "at", .int 3), (S "cell", c)]) pr ar [b0, b1] k)) = tab33 (onlyA true (endC 3 (lcL0 [(S "at", .int 3), (S "cell", c)]) (lcL0 [(S "at", .int 3), (S "cell", .id 1489)]) pr ar [b0, b1] k)) := by kernel_rfl
theorem tCp33 (P : Params) (c : AV) (b0 b1 b2 : AV) (pr ar : List AV) (k : Int) : tab33 (onlyA true (turnC P 3 (lcL0 [(S "at", .int 3), (S "cell", c)]) pr ar [b0, b1, b2] k)) = tab33 (onlyA true (endC 3 (lcL0 [(S "at", .int 3), (S "cell", c)]) (lcL0 [(S "at", .int 3), (S "cell", .id 1489)]) pr ar [b0, b1, b2] k)) := by kernel_rfl
end Mine
end

section
open PySem PySem.W
set_option Elab.async false
set_option maxRecDepth 100000
set_option maxHeartbeats 0
set_option linter.unusedVariables false
namespace Mine
/-- what copy_back meets: seven cases -/
inductive Ck | nu (h : Bool) | nv (h : Bool) | tk (h : Bool) | gd
noncomputable def tab7 {α : Type} (f : Ck → α) : List α := [f (.nu false), f (.nu true), f (.nv false), f (.nv true), f (.tk false), f (.tk true), f .gd]
theorem tab7_ext {α : Type} {f g : Ck → α} (h : tab7 f = tab7 g) : ∀ c, f c = g c := by
  obtain ⟨h0, h⟩ := cons_eq h
  obtain ⟨h1, h⟩ := cons_eq h
  obtain ⟨h2, h⟩ := cons_eq h
  obtain ⟨h3, h⟩ := cons_eq h
  obtain ⟨h4, h⟩ := cons_eq h
  obtain ⟨h5, h⟩ := cons_eq h
  obtain ⟨h6, h⟩ := cons_eq h
  intro c
  cases c with
  | nu h => cases h <;> assumption
  | nv h => cases h <;> assumption
  | tk h => cases h <;> assumption
  | gd => assumption
noncomputable def Ck.su : Ck → AV | .nu h => .id (cond h 58 18) | .nv h => .id (cond h 58 18) | .tk h => .id (cond h 62 60) | .gd => .id 64
noncomputable def Ck.cv (i : Nat) (k : Int) : Ck → AV | .nu _ => .glob 194 | .nv _ => .num .inn k | .tk _ => .id (114 + 128 * i) | .gd => .id (115 + 128 * i)
noncomputable def Ck.vv (i : Nat) (k : Int) (z : AV) : Ck → AV | .nu _ => z | .nv _ => .num .inn k | .tk _ => .id (114 + 128 * i) | .gd => .id (115 + 128 * i)
noncomputable def Ck.vo (i : Nat) : Ck → List (Nat × AO) | .nu h => vob i (.num h .x .u) | .nv h => vob i (.num h .x .u) | .tk h => vob i (.tsk h .x) | .gd => vob i (.grd .x)
noncomputable def preD (i : Nat) (k : Int) (z s : AV) (c : Ck) : List (Nat × AO) := (1297 + 64 * i, .inst 212 (1296 + 64 * i)) :: (1296 + 64 * i, .dict [(S "value", c.cv i k), (S "number", .int (Int.ofNat (i + 1))), (S "subtype", s)]) :: (144 + 128 * i, .tup [.str (S "cell"), .id (129 + 128 * i)]) :: (129 + 128 * i, .inst 212 (128 + 128 * i)) :: (128 + 128 * i, .dict (varD i (c.vv i k z))) :: (subO ++ c.vo i)
noncomputable def lcB0 (r : Lc) : Lc := (S "run", .id 1025) :: (S "back", .id 1041) :: r
noncomputable def lcB (i : Nat) (c : Ck) : Lc := lcB0 [(S "cell", .id (1297 + 64 * i)), (S "place", .id (144 + 128 * i)), (S "subtype", c.su)]
noncomputable def turnD (P : Params) (t i : Nat) (k : Int) (z s : AV) (c : Ck) : Option (Fl × Lc × List (Nat × AO) × Bool) :=
  tsum (selD i) (ky (preD i k z s c)) (1701 + 32 * t + 32) (exs (run (tab P) 55) ⟨scF P 797, []⟩ (forBd (nthStm 0 (bdF P 797))) (lcB i c) ⟨preD i k z s c, 1701 + 32 * t⟩)
noncomputable def endD (i : Nat) (k : Int) (z s : AV) (c : Ck) : Option (Fl × Lc × List (Nat × AO) × Bool) := some (.next, lcB i c, preD i k z s c, true)
theorem tD00 (P : Params) (k : Int) (z s : AV) : tab7 (turnD P 0 0 k z s) = tab7 (endD 0 k z s) := by kernel_rfl
theorem tD01 (P : Params) (k : Int) (z s : AV) : tab7 (turnD P 0 1 k z s) = tab7 (endD 1 k z s) := by kernel_rfl
theorem tD11 (P : Params) (k : Int) (z s : AV) : tab7 (turnD P 1 1 k z s) = tab7 (endD 1 k z s) := by kernel_rfl
theorem tD02 (P : Params) (k : Int) (z s : AV) : tab7 (turnD P 0 2 k z s) = tab7 (endD 2 k z s) := by kernel_rfl
theorem tD12 (P : Params) (k : Int) (z s : AV) : tab7 (turnD P 1 2 k z s) = tab7 (endD 2 k z s) := by kernel_rfl
theorem tD22 (P : Params) (k : Int) (z s : AV) : tab7 (turnD P 2 2 k z s) = tab7 (endD 2 k z s) := by kernel_rfl
theorem tD03 (P : Params) (k : Int) (z s : AV) : tab7 (turnD P 0 3 k z s) = tab7 (endD 3 k z s) := by kernel_rfl
theorem tD13 (P : Params) (k : Int) (z s : AV) : tab7 (turnD P 1 3 k z s) = tab7 (endD 3 k z s) := by kernel_rfl
theorem tD23 (P : Params) (k : Int) (z s : AV) : tab7 (turnD P 2 3 k z s) = tab7 (endD 3 k z s) := by kernel_rfl
theorem tD33 (P : Params) (k : Int) (z s : AV) : tab7 (turnD P 3 3 k z s) = tab7 (endD 3 k z s) := by kernel_rfl
end Mine
end

section
open PySem PySem.W PyProof.Rows PySem.Calls
set_option Elab.async false
set_option maxRecDepth 100000
set_option maxHeartbeats 0
set_option linter.unusedVariables false
namespace Mine
noncomputable def isNO : Option AO → Bool | .none => true | some _ => false
noncomputable def okR (n : Nat) (D : List Nat) (G : GF) : List Nat → Bool
  | [] => true
  | i :: r => cond (memN D i && Nat.blt i n || isNO (G i)) (okR n D G r) false
theorem okR_2 (n : Nat) (D : List Nat) (G : GF) (i r) : okR n D G (i :: r) = (cond (memN D i && Nat.blt i n || isNO (G i)) (okR n D G r) false : Bool) := rfl
theorem mkS_rep2 {n : Nat} {D : List Nat} {G : GF} : ∀ {D' : List Nat}, okR n D G D' = true → RepOn D' (mkS D G n) G
  | [], _, i, hi => nomatch hi
  | j :: r, h, i, hi => by
    rw [okR_2] at h
    obtain ⟨h1, h2⟩ : (memN D j && Nat.blt j n || isNO (G j)) = true ∧ okR n D G r = true := by
      cases q : (memN D j && Nat.blt j n || isNO (G j)) with
      | true => rw [q] at h; exact ⟨rfl, h⟩
      | false => rw [q] at h; cases h
    rw [memN_2] at hi
    cases e : Nat.beq j i with
    | false => rw [e] at hi; exact mkS_rep2 h2 i hi
    | true =>
      have e := Nat.eq_of_beq_eq_true e
      subst e
      cases q : G j with
      | none => cases z : (mkS D G n).get j with
        | none => rfl
        | some a => rw [(mkS_get z).2] at q; cases q
      | some a =>
        rw [q, show isNO (some a) = false from rfl, Bool.or_false, Bool.and_eq_true] at h1
        exact fnd_get (σ := mkS D G n) (fnd_pkG_mem q (memN_iff.mp h1.1)) (Nat.le_of_ble_eq_true h1.2)
noncomputable def mpG (G : GF) : List Nat → List (Option AO)
  | [] => []
  | i :: r => G i :: mpG G r
theorem RepOn.congr {D : List Nat} {σ : AS} {G G' : GF} (R : RepOn D σ G) (h : mpG G D = mpG G' D) : RepOn D σ G' := by
  intro i hi
  rw [R i hi]
  clear R
  induction D with
  | nil => cases hi
  | cons j D ih =>
    obtain ⟨h1, h2⟩ := cons_eq h
    rw [memN_2] at hi
    cases e : Nat.beq j i with
    | true => rw [← Nat.eq_of_beq_eq_true e]; exact h1
    | false => rw [e] at hi; exact ih h2 hi
theorem pkG_congr {G G' : GF} : ∀ {D : List Nat}, mpG G D = mpG G' D → pkG D G = pkG D G'
  | [], _ => rfl
  | j :: D, h => by
    obtain ⟨h1, h2⟩ := cons_eq h
    rw [pkG_2, pkG_2]
    rw [h1, pkG_congr h2]
noncomputable def forT : Stmt → Expr | .For t _ _ _ _ => t | _ => dE
noncomputable def bid (i : Nat) : List Nat := [128 + 128 * i, 129 + 128 * i, 160 + 128 * i, 176 + 128 * i, 144 + 128 * i, 113 + 128 * i, 114 + 128 * i, 115 + 128 * i, 193 + 128 * i]
noncomputable def bids : Nat → Nat → List Nat
  | _, 0 => []
  | i, n + 1 => bid i ++ bids (i + 1) n
noncomputable def DA : List Nat := [71, 70, 0, 2, 3, 5, 6, 7, 1, 4, 56, 65, 66, 67, 68] ++ (sSub ++ bids 0 4)
noncomputable def D0 : List Nat := [6, 7, 1, 4, 56, 65, 66, 67, 68, 0, 2, 3, 5] ++ sSub
noncomputable def F0 (q : List (AV × Nat)) : List (Nat × AO) := fixA q 0 [] ++ ((0, .ctab []) :: (2, .cell .none) :: (3, .cell .none) :: (5, .cell .none) :: subO)
noncomputable def G0 (q : List (AV × Nat)) : GF := fun i => fnd (F0 q) i
noncomputable def qsF (κ : Nat → Kd) (k : Nat → Int) : Nat → Nat → List (AV × Nat)
  | _, 0 => []
  | i, n + 1 => drw (κ i) (k i) (qsF κ k (i + 1) n)
noncomputable def duL (κ : Nat → Kd) (k : Nat → Int) : Nat → List AV
  | 0 => []
  | n + 1 => duL κ k n ++ [duA n (κ n) (k n)]
noncomputable def qAll (κ : Nat → Kd) (k : Nat → Int) (n : Nat) : List (AV × Nat) := (.int (Int.ofNat (n - 1)), 4) :: qsF κ k 0 n
noncomputable def gA (n : Nat) (κ : Nat → Kd) (k : Nat → Int) : Nat → GF
  | 0 => ovL [(71, .itR 0 n), (70, .rng n), (6, .cart 7 (qsF κ k 0 n))] (G0 (qAll κ k n))
  | i + 1 => ovI (selA ++ addN (72 + 128 * i) newA) (fixA (qsF κ k (i + 1) (n - (i + 1))) (i + 1) (duL κ k i ++ [duA i (κ i) (k i)]) ++ blkA i (κ i) (k i)) (ptG 71 (.itR (i + 1) n) (gA n κ k i))
noncomputable def D1 (n : Nat) : List Nat := [65, 66, 67, 68, 0, 1, 2, 3, 4, 5] ++ (sSub ++ bids 0 n)
noncomputable def fixG (n : Nat) (κ : Nat → Kd) (k : Nat → Int) : List (Nat × AO) := (65, .list (idl 160 0 n)) :: (66, .list (idl 176 0 n)) :: (67, .list (duL κ k n)) :: (68, .list (idl 129 0 n)) :: (0, .ctab []) :: (1, .cell (some (.id 66))) :: (2, .cell .none) :: (3, .cell .none) :: (4, .cell (some (.id 65))) :: (5, .cell .none) :: subO
noncomputable def blG (κ : Nat → Kd) (k : Nat → Int) (b : Nat) : List (Nat × AO) := blkA b (κ b) (k b)
/-- after the loop that lays the formals' data -/
noncomputable def GA (n : Nat) (κ : Nat → Kd) (k : Nat → Int) : GF := fun id => cond (Nat.blt id 112) (fnd (fixG n κ k) id) (cond (Nat.blt id 640) (ovL (blG κ k ((id - 112) / 128)) (fun _ => .none) id) .none)
theorem entA (P : Params) (F : Nat → AV → Option FrS) (n : Nat) (q : List (AV × Nat)) (hn : n = 1 ∨ n = 2 ∨ n = 3 ∨ n = 4) : (run (tabF P F) 59).ex fe0 (sL 3) (lcF []) (mkS D0 (G0 ((.int (Int.ofNat (n - 1)), 4) :: q)) 70) =
    forN (tabF P F) (run (tabF P F) 58) fe0 (forT (sL 3)) (forBd (sL 3)) 678 71 64 (lcF []) ⟨[(71, .itR 0 n), (70, .rng n), (6, .cart 7 q)] ++ pkG D0 (G0 ((.int (Int.ofNat (n - 1)), 4) :: q)), 72⟩ := by
  rcases hn with rfl | rfl | rfl | rfl
  · kernel_rfl
  · kernel_rfl
  · kernel_rfl
  · kernel_rfl
theorem stepA (P : Params) (n i : Nat) (κ : Nat → Kd) (k : Nat → Int) {lc lc1 : Lc} {σ : AS} (R : RepOn DA σ (gA n κ k i)) (hk : keysLt σ.n σ.o = true) (hn : σ.n = 72 + 128 * i)
    (hnx : nextG DA (gA n κ k i) 71 = some (some (.int (Int.ofNat i), .itR (i + 1) n))) (hl : ∀ σ', asgT (tab P) (run (tab P) 58) fe0 (forT (sL 3)) (.int (Int.ofNat i)) lc σ' = some (.next, lc1, σ'))
    (hp : pkG selA (ptG 71 (.itR (i + 1) n) (gA n κ k i)) = fixA (drw (κ i) (k i) (qsF κ k (i + 1) (n - (i + 1)))) i (duL κ k i)) (ht : turnA P i lc1 (duL κ k i) (qsF κ k (i + 1) (n - (i + 1))) (k i) (κ i) = endA i (duL κ k i) (qsF κ k (i + 1) (n - (i + 1))) (k i) (κ i)) :
    ∃ σ', RepOn DA σ' (gA n κ k (i + 1)) ∧ keysLt σ'.n σ'.o = true ∧ σ'.n = 72 + 128 * (i + 1) ∧
      ∀ m, forN (tab P) (run (tab P) 58) fe0 (forT (sL 3)) (forBd (sL 3)) 678 71 (m + 1) lc σ = forN (tab P) (run (tab P) 58) fe0 (forT (sL 3)) (forBd (sL 3)) 678 71 m (lcQ i (κ i) (k i)) σ' := by
  have ky0 : ky (fixA (drw (κ i) (k i) (qsF κ k (i + 1) (n - (i + 1)))) i (duL κ k i)) = selA := rfl
  obtain ⟨o, h1, h2, h3, _⟩ := loop_turn (T := tab P) (r := run (tab P) 58) (fe := fe0) (t := forT (sL 3)) (body := forBd (sL 3)) (ln := 678) (f := ⟨selA, newA, 128⟩) (lc₁ := lc1) (lc₂ := lcQ i (κ i) (k i)) (fl := .next) R hk hn (by kernel_rfl) hnx (fun σ' _ => hl σ') rfl (by kernel_rfl)
    (by rw [hp, ky0]; exact ht)
  exact ⟨_, h1, h2, by show 72 + 128 * i + 128 = _; rw [Nat.mul_succ, Nat.add_assoc], fun m => h3 rfl m⟩
theorem loopA1 (P : Params) (κ : Nat → Kd) (k : Nat → Int) : ∃ σ', exs (run (tab P) 59) fe0 [sL 3] (lcF []) (mkS D0 (G0 (qAll κ k 1)) 70) = some (.next, lcQ 0 (κ 0) (k 0), σ') ∧ RepOn (D1 1) σ' (GA 1 κ k) ∧ σ'.n ≤ 1000 := by
  have R : RepOn DA ⟨[(71, .itR 0 1), (70, .rng 1), (6, .cart 7 (qsF κ k 0 1))] ++ pkG D0 (G0 (qAll κ k 1)), 72⟩ (gA 1 κ k 0) := (mkS_rep2 (D := D0) (G := G0 (qAll κ k 1)) (n := 70) (by kernel_rfl)).push (by decide) (keysLt_pkG (by kernel_rfl)) (by kernel_rfl)
  have hk : keysLt 72 ([(71, .itR 0 1), (70, .rng 1), (6, .cart 7 (qsF κ k 0 1))] ++ pkG D0 (G0 (qAll κ k 1))) = true := keysLt_app (by kernel_rfl) (keysLt_pkG (by kernel_rfl))
  obtain ⟨σ1, R1, hk1, hn1, e1⟩ := stepA P 1 0 κ k (lc := lcF []) (lc1 := lcF [(S "at", .int 0)]) R hk rfl (by kernel_rfl) (fun σ' => by kernel_rfl) (by kernel_rfl) (tab33_ext (tA0 P  (qsF κ k 1 0) (k 0)) (κ 0))
  obtain ⟨Re, ee⟩ := loop_end (T := tab P) (r := run (tab P) 58) (fe := fe0) (t := forT (sL 3)) (body := forBd (sL 3)) (ln := 678) (lc := lcQ 0 (κ 0) (k 0)) R1 hk1 (j := 71) (by kernel_rfl) (by kernel_rfl)
  refine ⟨dead σ1 71 71, ?_, (Re.sub (D' := D1 1) (by kernel_rfl)).congr (by kernel_rfl), ?_⟩
  · have E := (e1 63).trans (ee 62)
    have T := (entA P frT 1 (qsF κ k 0 1) (by decide)).trans E
    rw [exs_2]
    rw [show (run (tab P) 59).ex fe0 (sL 3) (lcF []) (mkS D0 (G0 (qAll κ k 1)) 70) = _ from T]
    rfl
  · show σ1.n ≤ 1000
    omega
theorem loopA2 (P : Params) (κ : Nat → Kd) (k : Nat → Int) : ∃ σ', exs (run (tab P) 59) fe0 [sL 3] (lcF []) (mkS D0 (G0 (qAll κ k 2)) 70) = some (.next, lcQ 1 (κ 1) (k 1), σ') ∧ RepOn (D1 2) σ' (GA 2 κ k) ∧ σ'.n ≤ 1000 := by
  have R : RepOn DA ⟨[(71, .itR 0 2), (70, .rng 2), (6, .cart 7 (qsF κ k 0 2))] ++ pkG D0 (G0 (qAll κ k 2)), 72⟩ (gA 2 κ k 0) := (mkS_rep2 (D := D0) (G := G0 (qAll κ k 2)) (n := 70) (by kernel_rfl)).push (by decide) (keysLt_pkG (by kernel_rfl)) (by kernel_rfl)
  have hk : keysLt 72 ([(71, .itR 0 2), (70, .rng 2), (6, .cart 7 (qsF κ k 0 2))] ++ pkG D0 (G0 (qAll κ k 2))) = true := keysLt_app (by kernel_rfl) (keysLt_pkG (by kernel_rfl))
  obtain ⟨σ1, R1, hk1, hn1, e1⟩ := stepA P 2 0 κ k (lc := lcF []) (lc1 := lcF [(S "at", .int 0)]) R hk rfl (by kernel_rfl) (fun σ' => by kernel_rfl) (by kernel_rfl) (tab33_ext (tA0 P  (qsF κ k 1 1) (k 0)) (κ 0))
  obtain ⟨σ2, R2, hk2, hn2, e2⟩ := stepA P 2 1 κ k (lc := lcQ 0 (κ 0) (k 0)) (lc1 := lcF [(S "at", .int 1), (S "sort", .str (soS (κ 0))), (S "mode", .str (moS (mdOf (κ 0)))), (S "value", valA 0 (κ 0) (k 0)), (S "place", plM 0 (mdOf (κ 0)))]) R1 hk1 hn1 (by kernel_rfl) (fun σ' => by kernel_rfl) (by kernel_rfl) (tab33_ext (tA1 P _ _ _ _ (duA 0 (κ 0) (k 0)) (qsF κ k 2 0) (k 1)) (κ 1))
  obtain ⟨Re, ee⟩ := loop_end (T := tab P) (r := run (tab P) 58) (fe := fe0) (t := forT (sL 3)) (body := forBd (sL 3)) (ln := 678) (lc := lcQ 1 (κ 1) (k 1)) R2 hk2 (j := 71) (by kernel_rfl) (by kernel_rfl)
  refine ⟨dead σ2 71 71, ?_, (Re.sub (D' := D1 2) (by kernel_rfl)).congr (by kernel_rfl), ?_⟩
  · have E := (e1 63).trans ((e2 62).trans (ee 61))
    have T := (entA P frT 2 (qsF κ k 0 2) (by decide)).trans E
    rw [exs_2]
    rw [show (run (tab P) 59).ex fe0 (sL 3) (lcF []) (mkS D0 (G0 (qAll κ k 2)) 70) = _ from T]
    rfl
  · show σ2.n ≤ 1000
    omega
theorem loopA3 (P : Params) (κ : Nat → Kd) (k : Nat → Int) : ∃ σ', exs (run (tab P) 59) fe0 [sL 3] (lcF []) (mkS D0 (G0 (qAll κ k 3)) 70) = some (.next, lcQ 2 (κ 2) (k 2), σ') ∧ RepOn (D1 3) σ' (GA 3 κ k) ∧ σ'.n ≤ 1000 := by
  have R : RepOn DA ⟨[(71, .itR 0 3), (70, .rng 3), (6, .cart 7 (qsF κ k 0 3))] ++ pkG D0 (G0 (qAll κ k 3)), 72⟩ (gA 3 κ k 0) := (mkS_rep2 (D := D0) (G := G0 (qAll κ k 3)) (n := 70) (by kernel_rfl)).push (by decide) (keysLt_pkG (by kernel_rfl)) (by kernel_rfl)
  have hk : keysLt 72 ([(71, .itR 0 3), (70, .rng 3), (6, .cart 7 (qsF κ k 0 3))] ++ pkG D0 (G0 (qAll κ k 3))) = true := keysLt_app (by kernel_rfl) (keysLt_pkG (by kernel_rfl))
  obtain ⟨σ1, R1, hk1, hn1, e1⟩ := stepA P 3 0 κ k (lc := lcF []) (lc1 := lcF [(S "at", .int 0)]) R hk rfl (by kernel_rfl) (fun σ' => by kernel_rfl) (by kernel_rfl) (tab33_ext (tA0 P  (qsF κ k 1 2) (k 0)) (κ 0))
  obtain ⟨σ2, R2, hk2, hn2, e2⟩ := stepA P 3 1 κ k (lc := lcQ 0 (κ 0) (k 0)) (lc1 := lcF [(S "at", .int 1), (S "sort", .str (soS (κ 0))), (S "mode", .str (moS (mdOf (κ 0)))), (S "value", valA 0 (κ 0) (k 0)), (S "place", plM 0 (mdOf (κ 0)))]) R1 hk1 hn1 (by kernel_rfl) (fun σ' => by kernel_rfl) (by kernel_rfl) (tab33_ext (tA1 P _ _ _ _ (duA 0 (κ 0) (k 0)) (qsF κ k 2 1) (k 1)) (κ 1))
  obtain ⟨σ3, R3, hk3, hn3, e3⟩ := stepA P 3 2 κ k (lc := lcQ 1 (κ 1) (k 1)) (lc1 := lcF [(S "at", .int 2), (S "sort", .str (soS (κ 1))), (S "mode", .str (moS (mdOf (κ 1)))), (S "value", valA 1 (κ 1) (k 1)), (S "place", plM 1 (mdOf (κ 1)))]) R2 hk2 hn2 (by kernel_rfl) (fun σ' => by kernel_rfl) (by kernel_rfl) (tab33_ext (tA2 P _ _ _ _ (duA 0 (κ 0) (k 0)) (duA 1 (κ 1) (k 1)) (qsF κ k 3 0) (k 2)) (κ 2))
  obtain ⟨Re, ee⟩ := loop_end (T := tab P) (r := run (tab P) 58) (fe := fe0) (t := forT (sL 3)) (body := forBd (sL 3)) (ln := 678) (lc := lcQ 2 (κ 2) (k 2)) R3 hk3 (j := 71) (by kernel_rfl) (by kernel_rfl)
  refine ⟨dead σ3 71 71, ?_, (Re.sub (D' := D1 3) (by kernel_rfl)).congr (by kernel_rfl), ?_⟩
  · have E := (e1 63).trans ((e2 62).trans ((e3 61).trans (ee 60)))
    have T := (entA P frT 3 (qsF κ k 0 3) (by decide)).trans E
    rw [exs_2]
    rw [show (run (tab P) 59).ex fe0 (sL 3) (lcF []) (mkS D0 (G0 (qAll κ k 3)) 70) = _ from T]
    rfl
  · show σ3.n ≤ 1000
    omega
theorem loopA4 (P : Params) (κ : Nat → Kd) (k : Nat → Int) : ∃ σ', exs (run (tab P) 59) fe0 [sL 3] (lcF []) (mkS D0 (G0 (qAll κ k 4)) 70) = some (.next, lcQ 3 (κ 3) (k 3), σ') ∧ RepOn (D1 4) σ' (GA 4 κ k) ∧ σ'.n ≤ 1000 := by
  have R : RepOn DA ⟨[(71, .itR 0 4), (70, .rng 4), (6, .cart 7 (qsF κ k 0 4))] ++ pkG D0 (G0 (qAll κ k 4)), 72⟩ (gA 4 κ k 0) := (mkS_rep2 (D := D0) (G := G0 (qAll κ k 4)) (n := 70) (by kernel_rfl)).push (by decide) (keysLt_pkG (by kernel_rfl)) (by kernel_rfl)
  have hk : keysLt 72 ([(71, .itR 0 4), (70, .rng 4), (6, .cart 7 (qsF κ k 0 4))] ++ pkG D0 (G0 (qAll κ k 4))) = true := keysLt_app (by kernel_rfl) (keysLt_pkG (by kernel_rfl))
  obtain ⟨σ1, R1, hk1, hn1, e1⟩ := stepA P 4 0 κ k (lc := lcF []) (lc1 := lcF [(S "at", .int 0)]) R hk rfl (by kernel_rfl) (fun σ' => by kernel_rfl) (by kernel_rfl) (tab33_ext (tA0 P  (qsF κ k 1 3) (k 0)) (κ 0))
  obtain ⟨σ2, R2, hk2, hn2, e2⟩ := stepA P 4 1 κ k (lc := lcQ 0 (κ 0) (k 0)) (lc1 := lcF [(S "at", .int 1), (S "sort", .str (soS (κ 0))), (S "mode", .str (moS (mdOf (κ 0)))), (S "value", valA 0 (κ 0) (k 0)), (S "place", plM 0 (mdOf (κ 0)))]) R1 hk1 hn1 (by kernel_rfl) (fun σ' => by kernel_rfl) (by kernel_rfl) (tab33_ext (tA1 P _ _ _ _ (duA 0 (κ 0) (k 0)) (qsF κ k 2 2) (k 1)) (κ 1))
  obtain ⟨σ3, R3, hk3, hn3, e3⟩ := stepA P 4 2 κ k (lc := lcQ 1 (κ 1) (k 1)) (lc1 := lcF [(S "at", .int 2), (S "sort", .str (soS (κ 1))), (S "mode", .str (moS (mdOf (κ 1)))), (S "value", valA 1 (κ 1) (k 1)), (S "place", plM 1 (mdOf (κ 1)))]) R2 hk2 hn2 (by kernel_rfl) (fun σ' => by kernel_rfl) (by kernel_rfl) (tab33_ext (tA2 P _ _ _ _ (duA 0 (κ 0) (k 0)) (duA 1 (κ 1) (k 1)) (qsF κ k 3 1) (k 2)) (κ 2))
  obtain ⟨σ4, R4, hk4, hn4, e4⟩ := stepA P 4 3 κ k (lc := lcQ 2 (κ 2) (k 2)) (lc1 := lcF [(S "at", .int 3), (S "sort", .str (soS (κ 2))), (S "mode", .str (moS (mdOf (κ 2)))), (S "value", valA 2 (κ 2) (k 2)), (S "place", plM 2 (mdOf (κ 2)))]) R3 hk3 hn3 (by kernel_rfl) (fun σ' => by kernel_rfl) (by kernel_rfl) (tab33_ext (tA3 P _ _ _ _ (duA 0 (κ 0) (k 0)) (duA 1 (κ 1) (k 1)) (duA 2 (κ 2) (k 2)) (qsF κ k 4 0) (k 3)) (κ 3))
  obtain ⟨Re, ee⟩ := loop_end (T := tab P) (r := run (tab P) 58) (fe := fe0) (t := forT (sL 3)) (body := forBd (sL 3)) (ln := 678) (lc := lcQ 3 (κ 3) (k 3)) R4 hk4 (j := 71) (by kernel_rfl) (by kernel_rfl)
  refine ⟨dead σ4 71 71, ?_, (Re.sub (D' := D1 4) (by kernel_rfl)).congr (by kernel_rfl), ?_⟩
  · have E := (e1 63).trans ((e2 62).trans ((e3 61).trans ((e4 60).trans (ee 59))))
    have T := (entA P frT 4 (qsF κ k 0 4) (by decide)).trans E
    rw [exs_2]
    rw [show (run (tab P) 59).ex fe0 (sL 3) (lcF []) (mkS D0 (G0 (qAll κ k 4)) 70) = _ from T]
    rfl
  · show σ4.n ≤ 1000
    omega
end Mine
end

section
open PySem PySem.W PyProof.Rows PySem.Calls
set_option Elab.async false
set_option maxRecDepth 100000
set_option maxHeartbeats 0
set_option linter.unusedVariables false
namespace Mine
theorem exs_one {r : Rc} {fe : FE} {s : Stmt} {lc lc' : Lc} {σ σ' : AS} (h : r.ex fe s lc σ = some (.next, lc', σ')) : exs r fe [s] lc σ = some (.next, lc', σ') := by
  rw [exs_2]
  rw [h]
  rfl
noncomputable def N4 (n : Nat) : Prop := n = 1 ∨ n = 2 ∨ n = 3 ∨ n = 4
/-- all the pairs of a count and a formal -/
noncomputable def tabP {α : Type} (f : Nat → Nat → α) : List α := [f 1 0, f 2 0, f 2 1, f 3 0, f 3 1, f 3 2, f 4 0, f 4 1, f 4 2, f 4 3]
theorem tabP_ext {α : Type} {f g : Nat → Nat → α} (h : tabP f = tabP g) {n i : Nat} (hn : N4 n) (hi : i < n) : f n i = g n i := by
  obtain ⟨h0, h⟩ := cons_eq h
  obtain ⟨h1, h⟩ := cons_eq h
  obtain ⟨h2, h⟩ := cons_eq h
  obtain ⟨h3, h⟩ := cons_eq h
  obtain ⟨h4, h⟩ := cons_eq h
  obtain ⟨h5, h⟩ := cons_eq h
  obtain ⟨h6, h⟩ := cons_eq h
  obtain ⟨h7, h⟩ := cons_eq h
  obtain ⟨h8, h⟩ := cons_eq h
  obtain ⟨h9, _⟩ := cons_eq h
  rcases hn with rfl | rfl | rfl | rfl
  · obtain rfl := lt1 hi
    exact h0
  · obtain rfl | rfl := lt2 hi
    · exact h1
    · exact h2
  · obtain rfl | rfl | rfl := lt3 hi
    · exact h3
    · exact h4
    · exact h5
  · obtain rfl | rfl | rfl | rfl := lt4 hi
    · exact h6
    · exact h7
    · exact h8
    · exact h9
theorem n4_le {n : Nat} (hn : N4 n) : n ≤ 4 := by rcases hn with rfl | rfl | rfl | rfl <;> omega
theorem upto_succ {p : Nat → Prop} {i : Nat} (h : ∀ j, j < i → p j) (q : p i) : ∀ j, j < i + 1 → p j := fun j hj => (Nat.lt_succ_iff_lt_or_eq.mp hj).elim (h j) fun e => e ▸ q
theorem lt_end {i d n : Nat} (h : i + (d + 1) = n) : i < n := h ▸ Nat.lt_add_of_pos_right (Nat.succ_pos d)
theorem n64 {n : Nat} (hn : N4 n) : 63 - n + n + 1 = 64 := by rcases hn with rfl | rfl | rfl | rfl <;> rfl
theorem loopA (P : Params) {n : Nat} (hn : N4 n) (κ : Nat → Kd) (k : Nat → Int) : ∃ σ', exs (run (tab P) 59) fe0 [sL 3] (lcF []) (mkS D0 (G0 (qAll κ k n)) 70) = some (.next, lcQ (n - 1) (κ (n - 1)) (k (n - 1)), σ') ∧ RepOn (D1 n) σ' (GA n κ k) ∧ σ'.n ≤ 1000 := by
  rcases hn with rfl | rfl | rfl | rfl
  · exact loopA1 P κ k
  · exact loopA2 P κ k
  · exact loopA3 P κ k
  · exact loopA4 P κ k
/- the first two statements -/
noncomputable def new12 : List Nat := sSub ++ [56, 65, 66, 67, 68]
noncomputable def l12 : List (Nat × AO) := (1, .cell (some (.id 66))) :: (4, .cell (some (.id 65))) :: (subO ++ [(56, .dct subsD), (65, .list []), (66, .list []), (67, .list []), (68, .list [])])
noncomputable def Gs (q : List (AV × Nat)) : GF := fun i => (σ1 q).get i
noncomputable def Ds : List Nat := [0, 1, 2, 3, 4, 5, 6, 7]
theorem run12 (P : Params) (q : List (AV × Nat)) : tsum ([1, 4] ++ new12) (ky (pkG [1, 4] (Gs q))) 70 (exs (run (tab P) 59) fe0 [sL 1, sL 2] [(S "cart", .id 6)] ⟨pkG [1, 4] (Gs q), 8⟩) = some (.next, lcF [], l12, true) := by kernel_rfl
theorem gs12 (q : List (AV × Nat)) : mpG (ovI ([1, 4] ++ new12) l12 (Gs q)) D0 = mpG (G0 q) D0 := by kernel_rfl
/- statement 4 -/
noncomputable def new4 : List Nat := [1024, 1025, 1029, 1030, 1037, 1038, 1039, 1041]
noncomputable def l4 : List (Nat × AO) := (2, .cell (some (.id 1041))) :: (3, .cell (some (.id 1038))) :: (5, .cell (some (.id 1025))) :: (1024, .dict runD) :: (1025, .inst 687 1024) :: (1029, .dict [(S "last", .int 0)]) :: (1030, .inst 240 1029) :: (1037, .dict frmD) :: (1038, .inst 666 1037) :: (1039, .dct []) :: (1041, .list []) :: []
noncomputable def D2 (n : Nat) : List Nat := [65, 66, 67, 68, 0, 1, 2, 3, 4, 5, 1024, 1025, 1029, 1030, 1037, 1038, 1039, 1041] ++ (sSub ++ bids 0 n)
noncomputable def G2 (n : Nat) (κ : Nat → Kd) (k : Nat → Int) : GF := ovL l4 (GA n κ k)
theorem run4 (P : Params) (lc : Lc) (n : Nat) (κ : Nat → Kd) (k : Nat → Int) : tsum ([2, 3, 5] ++ new4) (ky (pkG [2, 3, 5] (GA n κ k))) 1056 (exs (run (tab P) 59) fe0 [sL 4] lc ⟨pkG [2, 3, 5] (GA n κ k), 1000⟩) = some (.next, lc, l4, true) := by kernel_rfl
theorem g4 (n : Nat) (hn : N4 n) (κ : Nat → Kd) (k : Nat → Int) : mpG (ovI ([2, 3, 5] ++ new4) l4 (GA n κ k)) (D2 n) = mpG (G2 n κ k) (D2 n) := by
  rcases hn with rfl | rfl | rfl | rfl
  · kernel_rfl
  · kernel_rfl
  · kernel_rfl
  · kernel_rfl
/- the dues as data -/
noncomputable def pdD (i : Nat) (κ : Kd) (k : Int) : PyData := match κ with
  | .num _ m v => match m with
    | .i => match v with | .u => .str (S "unset") | .lo => .none | .inn => .int (k - 2) | .hi => .none
    | .o => .str (S "unset")
    | .x => match v with | .u => .str (S "unset") | .lo => .none | .inn => .int (k - 2) | .hi => .none
  | .tsk _ _ => .tuple [.str (S "task"), .int (Int.ofNat (70 + i))]
  | .grd _ => .tuple [.str (S "guard"), .int (Int.ofNat (80 + i))]
noncomputable def duG (i : Nat) : Kd → Option AO
  | .num _ _ _ => .none
  | .tsk _ _ => some (.tup [.str (S "task"), .int (Int.ofNat (70 + i))])
  | .grd _ => some (.tup [.str (S "guard"), .int (Int.ofNat (80 + i))])
theorem ok_unset : PyData.strOk (S "unset") = true := by kernel_rfl
theorem ok_task : PyData.strOk (S "task") = true := by kernel_rfl
theorem ok_guard : PyData.strOk (S "guard") = true := by kernel_rfl
theorem pdA_tup {σ : AS} {j : Nat} {x : Str} {z : Int} (h : σ.get j = some (.tup [.str x, .int z])) (hx : PyData.strOk x = true) : pdA σ (.id j) = some (.tuple [.str x, .int z]) := by
  show (match σ.get j with
    | some (.tup xs) => match pdL pdF xs with
      | some l => some (PyData.tuple l)
      | .none => .none
    | _ => .none) = _
  rw [h]
  show (match (match pdF (.str x) with
    | some d => match pdL pdF [.int z] with
      | some l => some (d :: l)
      | .none => .none
    | .none => .none) with
    | some l => some (PyData.tuple l)
    | .none => .none) = _
  rw [show pdF (.str x) = some (.str x) by show cond (PyData.strOk x) (some (PyData.str x)) .none = _; rw [hx]; rfl]
  rfl
theorem pdA_str {σ : AS} {x : Str} (hx : PyData.strOk x = true) : pdA σ (.str x) = some (.str x) := by
  show cond (PyData.strOk x) (some (PyData.str x)) .none = _; rw [hx]; rfl
theorem pdA_du {σ : AS} (i : Nat) (κ : Kd) (k : Int) (h : σ.get (193 + 128 * i) = duG i κ) : pdA σ (duA i κ k) = some (pdD i κ k) := by
  cases κ with
  | num hh m v => cases m <;> cases v <;> first | exact pdA_str ok_unset | rfl
  | tsk hh m => exact pdA_tup h ok_task
  | grd m => exact pdA_tup h ok_guard
theorem pdL_app {f : AV → Option PyData} {x : AV} {d : PyData} (hx : f x = some d) : ∀ {xs : List AV} {ds : List PyData}, pdL f xs = some ds → pdL f (xs ++ [x]) = some (ds ++ [d])
  | [], ds, h => by cases h; rw [List.nil_append, List.nil_append]; rw [pdL_2]; rw [hx]; rfl
  | y :: xs, ds, h => by
    rw [pdL_2] at h
    split at h
    · rename_i d' hd
      split at h
      · rename_i l hl
        cases h
        rw [List.cons_append]
        rw [pdL_2]
        rw [hd, pdL_app hx hl]; rfl
      · cases h
    · cases h
noncomputable def pdLs (κ : Nat → Kd) (k : Nat → Int) : Nat → List PyData
  | 0 => []
  | n + 1 => pdLs κ k n ++ [pdD n (κ n) (k n)]
theorem pdL_du {σ : AS} {κ : Nat → Kd} {k : Nat → Int} : ∀ {n : Nat}, (∀ i, i < n → σ.get (193 + 128 * i) = duG i (κ i)) → pdL (pdA σ) (duL κ k n) = some (pdLs κ k n)
  | 0, _ => rfl
  | n + 1, h => pdL_app (pdA_du n (κ n) (k n) (h n (Nat.lt_succ_self n))) (pdL_du fun i hi => h i (Nat.lt_succ_of_lt hi))
noncomputable def anyBad (κ : Nat → Kd) : Nat → Bool
  | 0 => false
  | n + 1 => anyBad κ n || bad (κ n)
theorem isNone_du (i : Nat) (κ : Kd) (k : Int) : isNone (duA i κ k) = bad κ := by
  cases κ with
  | num hh m v => cases m <;> cases v <;> rfl
  | tsk hh m => rfl
  | grd m => rfl
theorem anyN_app {x : AV} : ∀ {xs : List AV}, anyN (xs ++ [x]) = (anyN xs || isNone x)
  | [] => by rw [List.nil_append]; rw [anyN_2]; cases isNone x <;> rfl
  | y :: xs => by
    rw [List.cons_append]
    rw [anyN_2, anyN_2]
    rw [anyN_app]
    cases isNone y <;> rfl
theorem anyN_du {κ : Nat → Kd} {k : Nat → Int} : ∀ {n : Nat}, anyN (duL κ k n) = anyBad κ n
  | 0 => rfl
  | n + 1 => by
    show anyN (duL κ k n ++ [duA n (κ n) (k n)]) = (anyBad κ n || bad (κ n))
    rw [anyN_app, anyN_du, isNone_du]
theorem duG0 (x : Kd) (k : Int) : ovL (blkA 0 x k) (fun _ => none) 193 = duG 0 x := tab33_ext (f := fun x => ovL (blkA 0 x k) (fun _ => none) 193) (g := duG 0) (by kernel_rfl) x
theorem duG1 (x : Kd) (k : Int) : ovL (blkA 1 x k) (fun _ => none) 321 = duG 1 x := tab33_ext (f := fun x => ovL (blkA 1 x k) (fun _ => none) 321) (g := duG 1) (by kernel_rfl) x
theorem duG2 (x : Kd) (k : Int) : ovL (blkA 2 x k) (fun _ => none) 449 = duG 2 x := tab33_ext (f := fun x => ovL (blkA 2 x k) (fun _ => none) 449) (g := duG 2) (by kernel_rfl) x
theorem duG3 (x : Kd) (k : Int) : ovL (blkA 3 x k) (fun _ => none) 577 = duG 3 x := tab33_ext (f := fun x => ovL (blkA 3 x k) (fun _ => none) 577) (g := duG 3) (by kernel_rfl) x
theorem du_get (n : Nat) (κ : Nat → Kd) (k : Nat → Int) (i : Nat) (hi : i < 4) : GA n κ k (193 + 128 * i) = duG i (κ i) := by
  match i, hi with
  | 0, _ => exact duG0 (κ 0) (k 0)
  | 1, _ => exact duG1 (κ 1) (k 1)
  | 2, _ => exact duG2 (κ 2) (k 2)
  | 3, _ => exact duG3 (κ 3) (k 3)
noncomputable def dueS (κ : Nat → Kd) (n : Nat) : Str := cond (anyBad κ n) (S "constraint_error") (S "")
noncomputable def lcR (a b c d e : AV) (r : Lc) : Lc := lcF ((S "at", a) :: (S "sort", b) :: (S "mode", c) :: (S "value", d) :: (S "place", e) :: r)
theorem run5 (P : Params) (a b c d e : AV) (o : List (Nat × AO)) : (run (tab P) 59).ex fe0 (sL 5) (lcR a b c d e []) ⟨o, 1056⟩ =
    gx (lcR a b c d e []) (bd (lift ⟨o, 1056⟩ (noneIn ⟨o, 1056⟩ (.id 67))) fun c τ => cond c (pu (.str (S "constraint_error")) τ) (pu (.str (S "")) τ)) fun v τ => nx (st1 fe0 (S "due") v (lcR a b c d e []) τ) := by kernel_rfl
theorem st5 (a b c d e v : AV) (σ : AS) : st1 fe0 (S "due") v (lcR a b c d e []) σ = some (lcR a b c d e [(S "due", v)], σ) := by kernel_rfl
theorem noneIn_at {σ : AS} {j : Nat} {xs : List AV} {ds : List PyData} (h : σ.get j = some (.list xs)) (hp : pdL (pdA σ) xs = some ds) : noneIn σ (.id j) = some (anyN xs) := by
  unfold noneIn
  dsimp only
  rw [show listAt σ j = some xs by unfold listAt; rw [h]]
  dsimp only
  rw [hp]
theorem run5' (P : Params) (a b c d e : AV) {o : List (Nat × AO)} {x : Bool} (h : noneIn ⟨o, 1056⟩ (.id 67) = some x) : (run (tab P) 59).ex fe0 (sL 5) (lcR a b c d e []) ⟨o, 1056⟩ = some (.next, lcR a b c d e [(S "due", .str (cond x (S "constraint_error") (S "")))], ⟨o, 1056⟩) := by
  rw [run5, h]
  cases x
  · show nx (st1 fe0 (S "due") (.str (S "")) (lcR a b c d e []) ⟨o, 1056⟩) = _
    rw [st5]; rfl
  · show nx (st1 fe0 (S "due") (.str (S "constraint_error")) (lcR a b c d e []) ⟨o, 1056⟩) = _
    rw [st5]; rfl
noncomputable def lc5 (n : Nat) (κ : Nat → Kd) (k : Nat → Int) (r : Lc) : Lc := lcR (.int (Int.ofNat (n - 1))) (.str (soS (κ (n - 1)))) (.str (moS (mdOf (κ (n - 1))))) (valA (n - 1) (κ (n - 1)) (k (n - 1))) (plM (n - 1) (mdOf (κ (n - 1)))) ((S "due", .str (dueS κ n)) :: r)
theorem ok2 {n : Nat} (hn : N4 n) : ltN 1056 (D2 n) = true ∧ ltN 1000 (D1 n) = true ∧ subN [2, 3, 5] (D1 n) = true ∧ subN (D2 n) (ky l4 ++ D1 n) = true ∧ subN (193 :: []) (D2 n) = true := by
  rcases hn with rfl | rfl | rfl | rfl <;> decide +kernel
theorem g67 {n : Nat} (hn : N4 n) (κ : Nat → Kd) (k : Nat → Int) : (mkS (D2 n) (G2 n κ k) 1056).get 67 = some (.list (duL κ k n)) := by
  have e : G2 n κ k 67 = some (.list (duL κ k n)) := by kernel_rfl
  rw [← e]
  exact mkS_rep (ok2 hn).1 67 (by rcases hn with rfl | rfl | rfl | rfl <;> kernel_rfl)
theorem g193 {n : Nat} (hn : N4 n) (κ : Nat → Kd) (k : Nat → Int) (i : Nat) (hi : i < n) : (mkS (D2 n) (G2 n κ k) 1056).get (193 + 128 * i) = duG i (κ i) := by
  have h4 := n4_le hn
  have h := tabP_ext (f := fun n i => (memN (D2 n) (193 + 128 * i), G2 n κ k (193 + 128 * i))) (g := fun n i => (true, GA n κ k (193 + 128 * i))) (by kernel_rfl) hn hi
  rw [← du_get n κ k i (by omega), mkS_rep (ok2 hn).1 (193 + 128 * i) (congrArg (·.1) h)]
  exact congrArg (·.2) h
section
variable {prog : Program} {w : World} {sc : List Int} {h₀ : Heap} {P : Params}
variable {A : Around} {cn : Str} {a : Addr} {ccd : Value} {cl : List (Str × Addr)} {outer : List Env} {L : Addr} {E : Value → Shared → Prop} {Q : Flow → Shared → Prop} {s₀ s : Shared} {rest : List Stmt}
theorem upto5 {n : Nat} (hn : N4 n) (κ : Nat → Kd) (k : Nat → Int) (H : SEx prog w sc h₀ (run (tab P) 59) 59) (ax : AX A (envX cn fe0.sc L a ccd cl) outer L [] 59) (X : LS prog w sc h₀ L cl s₀ (σ1 (qAll κ k n)) [(S "cart", .id 6)] s)
    (kk : ∀ s', LS prog w sc h₀ L cl s₀ (mkS (D2 n) (G2 n κ k) 1056) (lc5 n κ k []) s' → wpAny (model prog w) A (execs rest (envX cn fe0.sc L a ccd cl)) Q E s') :
    wpAny (model prog w) A (execs (sL 1 :: sL 2 :: sL 3 :: sL 4 :: sL 5 :: rest) (envX cn fe0.sc L a ccd cl)) Q E s := by
  have X0 : LS prog w sc h₀ L cl s₀ (mkS Ds (Gs (qAll κ k n)) 8) [(S "cart", .id 6)] s := X.toG (fun i _ => rfl) (Nat.le_refl 8)
  refine LS.piece (pre := [sL 1, sL 2]) (D' := D0) (n' := 70) H ax X0 (by decide +kernel) (by decide +kernel) (run12 P _) (by decide) (Nat.le_refl _) (by decide +kernel) fun s1 X1 => ?_
  rw [show mkS D0 (ovI ([1, 4] ++ new12) l12 (Gs (qAll κ k n))) 70 = mkS D0 (G0 (qAll κ k n)) 70 by unfold mkS; rw [pkG_congr (gs12 _)]] at X1
  refine LS.whole (pre := [sL 3]) (n' := 1000) H ax X1 (loopA P hn κ k) fun s2 X2 => ?_
  refine LS.piece (pre := [sL 4]) (D' := D2 n) (n' := 1056) H ax X2 (ok2 hn).2.1 (ok2 hn).2.2.1 (run4 P _ n κ k) (by decide) (Nat.le_refl _) (ok2 hn).2.2.2.1 fun s3 X3 => ?_
  rw [show mkS (D2 n) (ovI ([2, 3, 5] ++ new4) l4 (GA n κ k)) 1056 = mkS (D2 n) (G2 n κ k) 1056 by unfold mkS; rw [pkG_congr (g4 n hn κ k)]] at X3
  refine LS.whole (pre := [sL 5]) (lc' := lc5 n κ k []) (D' := D2 n) (G' := G2 n κ k) (n' := 1056) H ax X3 ⟨mkS (D2 n) (G2 n κ k) 1056, exs_one ?_, mkS_rep (ok2 hn).1, Nat.le_refl _⟩ kk
  have h := noneIn_at (g67 hn κ k) (pdL_du fun i hi => g193 hn κ k i hi)
  rw [anyN_du] at h
  exact run5' P _ _ _ _ _ h
end
end Mine
end

section
open PySem PySem.W PyProof.Rows PySem.Calls
set_option Elab.async false
set_option maxRecDepth 100000
set_option maxHeartbeats 0
set_option linter.unusedVariables false
namespace Mine
theorem pkG_app {G : GF} : ∀ {a b : List Nat}, pkG (a ++ b) G = pkG a G ++ pkG b G
  | [], _ => rfl
  | i :: a, b => by
    have e : ∀ l, pkG (i :: l) G = (match G i with | some a => (i, a) :: pkG l G | .none => pkG l G) := fun _ => rfl
    rw [List.cons_append, e, e, pkG_app]
    cases G i <;> rfl
theorem memN_app {i : Nat} {a b : List Nat} (h : memN (a ++ b) i = true) : memN a i = true ∨ memN b i = true := by
  rcases List.mem_append.mp (memN_iff.mp h) with h | h
  · exact .inl (memN_iff.mpr h)
  · exact .inr (memN_iff.mpr h)
theorem ovI_same {ids sel : List Nat} {G : GF} (i : Nat) : ovI ids (pkG sel G) G i = G i := by
  unfold ovI
  cases memN ids i with
  | false => rfl
  | true =>
    cases q : fnd (pkG sel G) i with
    | none => rfl
    | some a => exact (fnd_pkG q).2.symm
theorem ptG_ptG {j : Nat} {a b : AO} {G : GF} (i : Nat) : ptG j a (ptG j b G) i = ptG j a G i := by
  unfold ptG
  cases Nat.beq j i <;> rfl
theorem RepOn.ext {D : List Nat} {σ : AS} {G G' : GF} (R : RepOn D σ G) (h : ∀ i, G i = G' i) : RepOn D σ G' := fun i hi => (R i hi).trans (h i)
section
variable {T : ITab} {r : Rc} {fe : FE} {t : Expr} {body : List Stmt} {ln j m n0 : Nat} {lc lc₁ lc₂ : Lc} {σ σ₁ τ : AS} {v : AV} {fl : Fl} {f : FrS} {D : List Nat} {G : GF} {l : List (Nat × AO)} {a a' : AO}
/-- a turn of a for loop that leaves its part as it was -/
theorem loop_same (R : RepOn D σ (ptG j a' G)) (hk : keysLt σ.n σ.o = true) (hn : σ.n = n0) (hj : memN D j = true) (hnx : nextG D (ptG j a' G) j = some (some (v, a)))
    (hasg : ∀ σ', RepOn D σ' (ptG j a G) → asgT T r fe t v lc σ' = some (.next, lc₁, σ')) (hf : T.fr ln v = some f) (hs : subN f.sel D = true) (hp : pkG f.sel (ptG j a G) = l)
    (hx : tsum (f.sel ++ addN n0 f.new) (ky l) (n0 + f.w) (exs r fe body lc₁ ⟨l, n0⟩) = some (fl, lc₂, l, true)) :
    ∃ σ', RepOn D σ' (ptG j a G) ∧ keysLt σ'.n σ'.o = true ∧ σ'.n = n0 + f.w ∧
      (fl = .next → ∀ m, forN T r fe t body ln j (m + 1) lc σ = forN T r fe t body ln j m lc₂ σ') ∧ (fl = .exc → ∀ m, forN T r fe t body ln j (m + 1) lc σ = some (.exc, lc₂, σ')) := by
  have e : pkG f.sel (ptG j a (ptG j a' G)) = pkG f.sel (ptG j a G) := congrArg (pkG f.sel) (funext fun i => ptG_ptG i)
  obtain ⟨o, h1, h2, h3, h4⟩ := loop_turn (fl := fl) (lc₂ := lc₂) (l := l) R hk hn hj hnx (fun σ' R' => hasg σ' (R'.ext fun i => ptG_ptG i)) hf hs (by rw [e, hp]; exact hx)
  refine ⟨_, (h1.ext fun i => ?_), h2, rfl, h3, h4⟩
  rw [← hp, ← e]
  exact (ovI_same i).trans (ptG_ptG i)
end
theorem vob0 (x : Kd) (k : Int) : pkG (selV 0) (ovL (blkA 0 x k) (fun _ => none)) = vob 0 x := tab33_ext (f := fun x => pkG (selV 0) (ovL (blkA 0 x k) (fun _ => none))) (g := vob 0) (by kernel_rfl) x
theorem vob1 (x : Kd) (k : Int) : pkG (selV 1) (ovL (blkA 1 x k) (fun _ => none)) = vob 1 x := tab33_ext (f := fun x => pkG (selV 1) (ovL (blkA 1 x k) (fun _ => none))) (g := vob 1) (by kernel_rfl) x
theorem vob2 (x : Kd) (k : Int) : pkG (selV 2) (ovL (blkA 2 x k) (fun _ => none)) = vob 2 x := tab33_ext (f := fun x => pkG (selV 2) (ovL (blkA 2 x k) (fun _ => none))) (g := vob 2) (by kernel_rfl) x
theorem vob3 (x : Kd) (k : Int) : pkG (selV 3) (ovL (blkA 3 x k) (fun _ => none)) = vob 3 x := tab33_ext (f := fun x => pkG (selV 3) (ovL (blkA 3 x k) (fun _ => none))) (g := vob 3) (by kernel_rfl) x
theorem vob_pk (i : Nat) (hi : i < 4) (x : Kd) (k : Int) : pkG (selV i) (ovL (blkA i x k) (fun _ => none)) = vob i x := by
  match i, hi with
  | 0, _ => exact vob0 x k
  | 1, _ => exact vob1 x k
  | 2, _ => exact vob2 x k
  | 3, _ => exact vob3 x k
theorem anyBad_true {κ : Nat → Kd} {i : Nat} (h : bad (κ i) = true) : ∀ {n : Nat}, i < n → anyBad κ n = true
  | n + 1, hi => by
    show (anyBad κ n || bad (κ n)) = true
    by_cases e : i = n
    · subst e; rw [h, Bool.or_true]
    · rw [anyBad_true h (show i < n by omega)]; rfl
theorem anyBad_false {κ : Nat → Kd} : ∀ {n : Nat}, (∀ j, j < n → bad (κ j) = false) → anyBad κ n = false
  | 0, _ => rfl
  | n + 1, h => by
    show (anyBad κ n || bad (κ n)) = false
    rw [anyBad_false fun j hj => h j (Nat.lt_succ_of_lt hj), h n (Nat.lt_succ_self n)]; rfl
noncomputable def exsK (r : Rc) (fe : FE) (ss : List Stmt) (x : Option (Fl × Lc × AS)) : Option (Fl × Lc × AS) := match x with
  | some (.next, lc, σ) => exs r fe ss lc σ
  | x => x
noncomputable def clB : List (Str × Nat) := [(S "run", 5), (S "params", 4), (S "actuals", 1)]
noncomputable def qB : Str := S "law.<locals>.<lambda>"
noncomputable def mkB (σ : AS) : AS := mkF σ 0 [] (laP lamE) (laA lamE) (.expr (laB lamE)) (laS lamE) clB qB
noncomputable def tbB : List (Nat × Nat) := [] ++ [((laP lamE).line, (laP lamE).col)]
noncomputable def fxI : List Nat := [65, 66, 67, 68, 0, 1, 2, 3, 4, 5, 1024, 1025, 1029, 1030, 1037, 1038, 1039, 1041]
noncomputable def fxB (n : Nat) (du : List AV) : List (Nat × AO) := (65, .list (idl 160 0 n)) :: (66, .list (idl 176 0 n)) :: (67, .list du) :: (68, .list (idl 129 0 n)) :: (0, .ctab []) :: (1, .cell (some (.id 66))) :: (2, .cell (some (.id 1041))) :: (3, .cell (some (.id 1038))) :: (4, .cell (some (.id 65))) :: (5, .cell (some (.id 1025))) :: (1024, .dict runD) :: (1025, .inst 687 1024) :: (1029, .dict [(S "last", .int 0)]) :: (1030, .inst 240 1029) :: (1037, .dict frmD) :: (1038, .inst 666 1037) :: (1039, .dct []) :: (1041, .list []) :: []
theorem fx_pk (n : Nat) (κ : Nat → Kd) (k : Nat → Int) : pkG fxI (G2 n κ k) = fxB n (duL κ k n) := by kernel_rfl
noncomputable def feH (P : Params) : FE := ⟨scF P 790, []⟩
noncomputable def fsH (P : Params) : Stmt := nthStm 0 (bdF P 790)
theorem entB (P : Params) (F : Nat → AV → Option FrS) (n : Nat) (du : List AV) (rest : List (Nat × AO)) (hn : N4 n) : (run (tabF P F) 59).ca (.glob 883) [.id 1057] (mkB ⟨fxB n du ++ rest, 1056⟩) =
    wordOf (retOf (exsK (run (tabF P F) 55) (feH P) [] (forN (tabF P F) (run (tabF P F) 54) (feH P) (forT (fsH P)) (forBd (fsH P)) 582 1059 64 (lcH0 []) ⟨[(1059, .itR 0 n), (1058, .rng n)] ++ (mkB ⟨fxB n du ++ rest, 1056⟩).o, 1060⟩))) := by
  rcases hn with rfl | rfl | rfl | rfl
  · kernel_rfl
  · kernel_rfl
  · kernel_rfl
  · kernel_rfl
noncomputable def DB (n : Nat) : List Nat := 1059 :: D2 n
noncomputable def GB (n : Nat) (κ : Nat → Kd) (k : Nat → Int) : GF := ptG 0 (.ctab tbB) (G2 n κ k)
noncomputable def lcHb (κ : Nat → Kd) (k : Nat → Int) : Nat → Lc
  | 0 => lcH0 []
  | j + 1 => lcH j (κ j) (k j)
noncomputable def InvB (n : Nat) (κ : Nat → Kd) (k : Nat → Int) (i : Nat) (σ : AS) : Prop := RepOn (DB n) σ (ptG 1059 (.itR i n) (GB n κ k)) ∧ keysLt σ.n σ.o = true ∧ σ.n = 1060 + 32 * i
theorem hpB (n i : Nat) (κ : Nat → Kd) (k : Nat → Int) (pr ar : List AV) (G : GF) (hi : i < 4) (h1 : pkG (65 :: 66 :: (160 + 128 * i) :: (176 + 128 * i) :: sSub) G = (65, .list (idl 160 0 (i + 1) ++ pr)) :: (66, .list (idl 176 0 (i + 1) ++ ar)) :: (160 + 128 * i, .tup (parO i (κ i))) :: (176 + 128 * i, .tup (actO i (κ i) (k i))) :: subO) (h2 : mpG G (selV i) = mpG (ovL (blkA i (κ i) (k i)) (fun _ => none)) (selV i)) :
    pkG (selB i) G = preB i (κ i) (k i) pr ar := by
  show pkG ((65 :: 66 :: (160 + 128 * i) :: (176 + 128 * i) :: sSub) ++ selV i) G = _
  rw [pkG_app, h1, pkG_congr h2, vob_pk i hi]
  rfl
/-- one turn of the loop that holds the actuals, from what is reckoned of it -/
theorem stepB' (P : Params) (n i : Nat) (κ : Nat → Kd) (k : Nat → Int) {lc lc1 : Lc} {pr ar : List AV} {σ : AS} (I : InvB n κ k i σ) (hi : i < 4) (hj : memN (DB n) 1059 = true) (hs : subN (selB i) (DB n) = true) (hfr : (tab P).fr 582 (.int (Int.ofNat i)) = some ⟨selB i, [], 32⟩)
    (hnx : nextG (DB n) (ptG 1059 (.itR i n) (GB n κ k)) 1059 = some (some (.int (Int.ofNat i), .itR (i + 1) n))) (hl : ∀ σ', asgT (tab P) (run (tab P) 54) (feH P) (forT (fsH P)) (.int (Int.ofNat i)) lc σ' = some (.next, lc1, σ'))
    (h1 : pkG (65 :: 66 :: (160 + 128 * i) :: (176 + 128 * i) :: sSub) (ptG 1059 (.itR (i + 1) n) (GB n κ k)) = (65, .list (idl 160 0 (i + 1) ++ pr)) :: (66, .list (idl 176 0 (i + 1) ++ ar)) :: (160 + 128 * i, .tup (parO i (κ i))) :: (176 + 128 * i, .tup (actO i (κ i) (k i))) :: subO)
    (h2 : mpG (ptG 1059 (.itR (i + 1) n) (GB n κ k)) (selV i) = mpG (ovL (blkA i (κ i) (k i)) (fun _ => none)) (selV i)) (ht : turnB P i lc1 pr ar (k i) (κ i) = endB i pr ar (k i) (κ i)) :
    ∃ σ', InvB n κ k (i + 1) σ' ∧ (bad (κ i) = false → ∀ m, forN (tab P) (run (tab P) 54) (feH P) (forT (fsH P)) (forBd (fsH P)) 582 1059 (m + 1) lc σ = forN (tab P) (run (tab P) 54) (feH P) (forT (fsH P)) (forBd (fsH P)) 582 1059 m (lcH i (κ i) (k i)) σ') ∧
      (bad (κ i) = true → ∀ m, forN (tab P) (run (tab P) 54) (feH P) (forT (fsH P)) (forBd (fsH P)) 582 1059 (m + 1) lc σ = some (.exc, lcH i (κ i) (k i), σ')) := by
  obtain ⟨σ', g1, g2, g3, g4, g5⟩ := loop_same (T := tab P) (r := run (tab P) 54) (fe := feH P) (t := forT (fsH P)) (body := forBd (fsH P)) (ln := 582) (f := ⟨selB i, [], 32⟩) (lc₁ := lc1) (lc₂ := lcH i (κ i) (k i)) (fl := flB (κ i)) (l := preB i (κ i) (k i) pr ar) I.1 I.2.1 I.2.2 hj hnx (fun σ' _ => hl σ') hfr hs (hpB n i κ k pr ar _ hi h1 h2)
    (by
      have e : (selB i ++ addN (1060 + 32 * i) []) = selB i := List.append_nil _
      show tsum (selB i ++ addN (1060 + 32 * i) []) _ _ _ = _
      rw [e]; exact ht)
  refine ⟨σ', ⟨g1, g2, by rw [g3]; show 1060 + 32 * i + 32 = _; omega⟩, fun hb => g4 ?_, fun hb => g5 ?_⟩
  · unfold flB; rw [hb]; rfl
  · unfold flB; rw [hb]; rfl
theorem tB (P : Params) (κ : Nat → Kd) (k : Nat → Int) (i : Nat) (hi : i < 4) (pr ar : List AV) : ∃ lc1, (∀ σ', asgT (tab P) (run (tab P) 54) (feH P) (forT (fsH P)) (.int (Int.ofNat i)) (lcHb κ k i) σ' = some (.next, lc1, σ')) ∧ turnB P i lc1 pr ar (k i) (κ i) = endB i pr ar (k i) (κ i) := by
  match i, hi with
  | 0, _ => exact ⟨_, fun σ' => (by kernel_rfl : asgT (tab P) (run (tab P) 54) (feH P) (forT (fsH P)) (.int (Int.ofNat 0)) (lcHb κ k 0) σ' = some (.next, lcH0 [(S "at", .int 0)], σ')), tab33_ext (tB0 P pr ar (k 0)) (κ 0)⟩
  | 1, _ => exact ⟨_, fun σ' => (by kernel_rfl : asgT (tab P) (run (tab P) 54) (feH P) (forT (fsH P)) (.int (Int.ofNat 1)) (lcHb κ k 1) σ' = some (.next, lcH0 [(S "at", .int 1), (S "name", .str (fS 0)), (S "mode", .str (moS (mdOf (κ 0)))), (S "subtype", suA (κ 0)), (S "default", .none), (S "value", valA 0 (κ 0) (k 0))], σ')), tab33_ext (tB1 P _ _ _ _ _ pr ar (k 1)) (κ 1)⟩
  | 2, _ => exact ⟨_, fun σ' => (by kernel_rfl : asgT (tab P) (run (tab P) 54) (feH P) (forT (fsH P)) (.int (Int.ofNat 2)) (lcHb κ k 2) σ' = some (.next, lcH0 [(S "at", .int 2), (S "name", .str (fS 1)), (S "mode", .str (moS (mdOf (κ 1)))), (S "subtype", suA (κ 1)), (S "default", .none), (S "value", valA 1 (κ 1) (k 1))], σ')), tab33_ext (tB2 P _ _ _ _ _ pr ar (k 2)) (κ 2)⟩
  | 3, _ => exact ⟨_, fun σ' => (by kernel_rfl : asgT (tab P) (run (tab P) 54) (feH P) (forT (fsH P)) (.int (Int.ofNat 3)) (lcHb κ k 3) σ' = some (.next, lcH0 [(S "at", .int 3), (S "name", .str (fS 2)), (S "mode", .str (moS (mdOf (κ 2)))), (S "subtype", suA (κ 2)), (S "default", .none), (S "value", valA 2 (κ 2) (k 2))], σ')), tab33_ext (tB3 P _ _ _ _ _ pr ar (k 3)) (κ 3)⟩
theorem factB (κ : Nat → Kd) (k : Nat → Int) {n i : Nat} (hn : N4 n) (hi : i < n) : subN (selB i) (DB n) = true ∧
    pkG (65 :: 66 :: (160 + 128 * i) :: (176 + 128 * i) :: sSub) (ptG 1059 (.itR (i + 1) n) (GB n κ k)) = (65, .list (idl 160 0 (i + 1) ++ idl 160 (i + 1) (n - (i + 1)))) :: (66, .list (idl 176 0 (i + 1) ++ idl 176 (i + 1) (n - (i + 1)))) :: (160 + 128 * i, .tup (parO i (κ i))) :: (176 + 128 * i, .tup (actO i (κ i) (k i))) :: subO ∧
    mpG (ptG 1059 (.itR (i + 1) n) (GB n κ k)) (selV i) = mpG (ovL (blkA i (κ i) (k i)) (fun _ => none)) (selV i) := by
  have h := tabP_ext (f := fun n i => (subN (selB i) (DB n), pkG (65 :: 66 :: (160 + 128 * i) :: (176 + 128 * i) :: sSub) (ptG 1059 (.itR (i + 1) n) (GB n κ k)), mpG (ptG 1059 (.itR (i + 1) n) (GB n κ k)) (selV i)))
    (g := fun n i => (true, (65, .list (idl 160 0 (i + 1) ++ idl 160 (i + 1) (n - (i + 1)))) :: (66, .list (idl 176 0 (i + 1) ++ idl 176 (i + 1) (n - (i + 1)))) :: (160 + 128 * i, .tup (parO i (κ i))) :: (176 + 128 * i, .tup (actO i (κ i) (k i))) :: subO, mpG (ovL (blkA i (κ i) (k i)) (fun _ => none)) (selV i))) (by kernel_rfl) hn hi
  exact ⟨congrArg (·.1) h, congrArg (·.2.1) h, congrArg (·.2.2) h⟩
theorem stepB (P : Params) {n i : Nat} (hn : N4 n) (hi : i < n) (κ : Nat → Kd) (k : Nat → Int) {σ : AS} (I : InvB n κ k i σ) :
    ∃ σ', InvB n κ k (i + 1) σ' ∧ (bad (κ i) = false → ∀ m, forN (tab P) (run (tab P) 54) (feH P) (forT (fsH P)) (forBd (fsH P)) 582 1059 (m + 1) (lcHb κ k i) σ = forN (tab P) (run (tab P) 54) (feH P) (forT (fsH P)) (forBd (fsH P)) 582 1059 m (lcHb κ k (i + 1)) σ') ∧
      (bad (κ i) = true → ∀ m, forN (tab P) (run (tab P) 54) (feH P) (forT (fsH P)) (forBd (fsH P)) 582 1059 (m + 1) (lcHb κ k i) σ = some (.exc, lcHb κ k (i + 1), σ')) := by
  have h4 : i < 4 := by have := n4_le hn; omega
  obtain ⟨f1, f2, f3⟩ := factB κ k hn hi
  obtain ⟨lc1, a1, a2⟩ := tB P κ k i h4 (idl 160 (i + 1) (n - (i + 1))) (idl 176 (i + 1) (n - (i + 1)))
  exact stepB' P n i κ k I h4 rfl f1 rfl (by show cond (Nat.blt i n) _ _ = _; rw [blt_true hi]; rfl) a1 f2 f3 a2
theorem endBn (P : Params) {n : Nat} (hn : N4 n) (κ : Nat → Kd) (k : Nat → Int) {σ : AS} (I : InvB n κ k n σ) (lc : Lc) : ∃ σ', (∀ m, forN (tab P) (run (tab P) 54) (feH P) (forT (fsH P)) (forBd (fsH P)) 582 1059 (m + 1) lc σ = some (.next, lc, σ')) ∧ RepOn (D2 n) σ' (GB n κ k) ∧ σ'.n ≤ 1280 := by
  have hnx : nextG (DB n) (ptG 1059 (.itR n n) (GB n κ k)) 1059 = some none := by rcases hn with rfl | rfl | rfl | rfl <;> kernel_rfl
  have hj : memN (DB n) 1059 = true := rfl
  obtain ⟨h1, h2⟩ := loop_end (T := tab P) (r := run (tab P) 54) (fe := feH P) (t := forT (fsH P)) (body := forBd (fsH P)) (ln := 582) (lc := lc) I.1 I.2.1 hj hnx
  refine ⟨_, h2, ((h1.sub (D' := D2 n) (by rcases hn with rfl | rfl | rfl | rfl <;> kernel_rfl)).congr (by rcases hn with rfl | rfl | rfl | rfl <;> kernel_rfl)), ?_⟩
  show σ.n ≤ 1280
  have := I.2.2
  have : n ≤ 4 := by rcases hn with rfl | rfl | rfl | rfl <;> omega
  omega
theorem chainB (P : Params) {n : Nat} (hn : N4 n) (κ : Nat → Kd) (k : Nat → Int) : ∀ d i, i + d = n → ∀ {σ : AS}, InvB n κ k i σ → (∀ j, j < i → bad (κ j) = false) → ∀ m, ∃ lc' σ', forN (tab P) (run (tab P) 54) (feH P) (forT (fsH P)) (forBd (fsH P)) 582 1059 (m + d + 1) (lcHb κ k i) σ = some (cond (anyBad κ n) .exc .next, lc', σ') ∧ RepOn (D2 n) σ' (GB n κ k) ∧ σ'.n ≤ 1280
  | 0, i, hid, σ, I, hb, m => by
    have : i = n := hid
    subst this
    obtain ⟨σ', h1, h2, h3⟩ := endBn P hn κ k I (lcHb κ k i)
    exact ⟨_, σ', (h1 m).trans (by rw [anyBad_false hb]; rfl), h2, h3⟩
  | d + 1, i, hid, σ, I, hb, m => by
    have hi : i < n := lt_end hid
    obtain ⟨σ', I', g1, g2⟩ := stepB P hn hi κ k I
    cases q : bad (κ i) with
    | false =>
      obtain ⟨lc', σ2, e, r⟩ := chainB P hn κ k d (i + 1) ((Nat.succ_add i d).trans hid) I' (upto_succ hb q) m
      exact ⟨lc', σ2, (g1 q (m + d + 1)).trans e, r⟩
    | true =>
      refine ⟨_, σ', (g2 q (m + d + 1)).trans (by rw [anyBad_true q hi]; rfl), (I'.1.sub (D' := D2 n) (by rcases hn with rfl | rfl | rfl | rfl <;> kernel_rfl)).congr (by rcases hn with rfl | rfl | rfl | rfl <;> kernel_rfl), ?_⟩
      have := I'.2.2
      have := n4_le hn
      omega
/-- the word of the lambda that holds the actuals -/
theorem wordB (P : Params) {n : Nat} (hn : N4 n) (κ : Nat → Kd) (k : Nat → Int) : ∃ σ₂, (run (tab P) 59).ca (.glob 883) [.id 1057] (mkB (mkS (D2 n) (G2 n κ k) 1056)) = some (some (.str (dueS κ n)), σ₂) ∧ RepOn (D2 n) σ₂ (GB n κ k) ∧ σ₂.n ≤ 1280 := by
  have es : mkS (D2 n) (G2 n κ k) 1056 = ⟨fxB n (duL κ k n) ++ pkG (sSub ++ bids 0 n) (G2 n κ k), 1056⟩ := by
    show (⟨pkG (fxI ++ (sSub ++ bids 0 n)) (G2 n κ k), 1056⟩ : AS) = _
    rw [pkG_app, fx_pk]
  have lt := (ok2 hn).1
  have R0 : RepOn (DB n) (mkS (D2 n) (G2 n κ k) 1056) (G2 n κ k) := mkS_rep2 (by rcases hn with rfl | rfl | rfl | rfl <;> kernel_rfl)
  have R1 := ((R0.put (j := 0) (a := .ctab tbB) (show 0 < 1056 by decide)).new (a := .code qB)).new (a := .fn (laA lamE) (.expr (laB lamE)) (laS lamE) clB qB 1056)
  have K0 : keysLt 1058 (mkB (mkS (D2 n) (G2 n κ k) 1056)).o = true := by
    show keysLt 1058 ([(1057, _), (1056, _), (0, _)] ++ pkG (D2 n) (G2 n κ k)) = true
    exact keysLt_app rfl (keysLt_mono (by decide) (keysLt_pkG lt))
  have R2 := RepOn.push (l := [(1059, .itR 0 n), (1058, .rng n)]) (n := 1058) (n' := 1060) (o := (mkB (mkS (D2 n) (G2 n κ k) 1056)).o) R1 (by decide) K0 rfl
  have I0 : InvB n κ k 0 ⟨[(1059, .itR 0 n), (1058, .rng n)] ++ (mkB (mkS (D2 n) (G2 n κ k) 1056)).o, 1060⟩ := ⟨R2.congr (by rcases hn with rfl | rfl | rfl | rfl <;> kernel_rfl), keysLt_app rfl (keysLt_mono (show 1058 ≤ 1060 by decide) K0), rfl⟩
  obtain ⟨lc', σ', h1, h2, h3⟩ := chainB P hn κ k n 0 (Nat.zero_add n) I0 (fun j hj => absurd hj (Nat.not_lt_zero j)) (63 - n)
  rw [n64 hn] at h1
  refine ⟨σ', ?_, h2, h3⟩
  have T := entB P frT n (duL κ k n) (pkG (sSub ++ bids 0 n) (G2 n κ k)) hn
  rw [← es] at T
  rw [show tabF P frT = tab P from rfl] at T
  rw [T, show lcH0 [] = lcHb κ k 0 from rfl, h1]
  unfold dueS
  cases anyBad κ n <;> rfl
end Mine
end

section
open PySem PySem.W PyProof.Rows PySem.Calls
set_option Elab.async false
set_option maxRecDepth 100000
set_option maxHeartbeats 0
set_option linter.unusedVariables false
namespace Mine
noncomputable def bks (κ : Nat → Kd) : Nat → List AV
  | 0 => []
  | i + 1 => cond (hasP (κ i)) (bks κ i ++ [.id (1312 + 64 * i)]) (bks κ i)
theorem bks_1 (κ : Nat → Kd) : bks κ 0 = ([] : List AV) := rfl
theorem bks_2 (κ : Nat → Kd) (i) : bks κ (i + 1) = (cond (hasP (κ i)) (bks κ i ++ [.id (1312 + 64 * i)]) (bks κ i) : List AV) := rfl
theorem bks_len (κ : Nat → Kd) : ∀ i, (bks κ i).length ≤ i
  | 0 => Nat.le_refl _
  | i + 1 => by
    have := bks_len κ i
    show (cond (hasP (κ i)) (bks κ i ++ [.id (1312 + 64 * i)]) (bks κ i)).length ≤ i + 1
    cases hasP (κ i) with
    | true => rw [cond_true, List.length_append]; show _ + 1 ≤ _; omega
    | false => rw [cond_false]; omega
noncomputable def clC : List (Str × Nat) := [(S "run", 5), (S "params", 4), (S "frame", 3), (S "back", 2), (S "actuals", 1)]
noncomputable def qC : Str := S "law.<locals>.lay"
noncomputable def mkC (σ : AS) : AS := mkF σ 0 tbB (fdP (sL 7)) (fdA (sL 7)) (.stmts (fdB (sL 7))) (fdS (sL 7)) clC qC
noncomputable def tbC : List (Nat × Nat) := tbB ++ [((fdP (sL 7)).line, (fdP (sL 7)).col)]
noncomputable def fxC (n : Nat) (du : List AV) : List (Nat × AO) := (65, .list (idl 160 0 n)) :: (66, .list (idl 176 0 n)) :: (67, .list du) :: (68, .list (idl 129 0 n)) :: (0, .ctab tbB) :: (1, .cell (some (.id 66))) :: (2, .cell (some (.id 1041))) :: (3, .cell (some (.id 1038))) :: (4, .cell (some (.id 65))) :: (5, .cell (some (.id 1025))) :: (1024, .dict runD) :: (1025, .inst 687 1024) :: (1029, .dict [(S "last", .int 0)]) :: (1030, .inst 240 1029) :: (1037, .dict frmD) :: (1038, .inst 666 1037) :: (1039, .dct []) :: (1041, .list []) :: []
theorem fxC_pk (n : Nat) (κ : Nat → Kd) (k : Nat → Int) : pkG fxI (GB n κ k) = fxC n (duL κ k n) := by kernel_rfl
noncomputable def feY : FE := ⟨fdS (sL 7), clC⟩
noncomputable def yS (i : Nat) : Stmt := nthStm i (fdB (sL 7))
noncomputable def feL (P : Params) : FE := ⟨scF P 783, []⟩
noncomputable def lS (P : Params) (i : Nat) : Stmt := nthStm i (bdF P 783)
theorem entC (P : Params) (F : Nat → AV → Option FrS) (n : Nat) (du : List AV) (rest : List (Nat × AO)) (hn : N4 n) : (run (tabF P F) 56).ca (.glob 883) [.id 1281] (mkC ⟨fxC n du ++ rest, 1280⟩) =
    wordOf (retOf (exsK (run (tabF P F) 54) feY [yS 1] (gx [] (retOf (exsK (run (tabF P F) 51) (feL P) [lS P 2] (forN (tabF P F) (run (tabF P F) 50) (feL P) (forT (lS P 1)) (forBd (lS P 1)) 576 1284 64 (lcL0 []) ⟨[(1284, .itR 0 n), (1283, .rng n), (1282, .list [])] ++ (mkC ⟨fxC n du ++ rest, 1280⟩).o, 1285⟩))) fun v τ => nx (st1 feY (S "rows") v [] τ)))) := by
  rcases hn with rfl | rfl | rfl | rfl
  · kernel_rfl
  · kernel_rfl
  · kernel_rfl
  · kernel_rfl
theorem retC (P : Params) (a b : AV) (σ : AS) : exs (run (tab P) 51) (feL P) [lS P 2] (lcL0 [(S "at", a), (S "cell", b)]) σ = some (.ret (.id 1282), lcL0 [(S "at", a), (S "cell", b)], σ) := by kernel_rfl
noncomputable def dC (bk : List AV) (o : List (Nat × AO)) (n : Nat) : AS := dead ⟨(2, .cell (some (.id 1041))) :: (1041, .list []) :: (1282, .list bk) :: o, n⟩ 1284 1284
theorem extC (P : Params) (bk : List AV) (o : List (Nat × AO)) (n : Nat) (hn : N4 n) : (run (tab P) 54).ex feY (yS 1) [(S "rows", .id 1282)] (dC bk o (1285 + 64 * n)) =
    gx [(S "rows", .id 1282)] (cond (Nat.ble (([] : List AV) ++ bk).length 900) (pu AV.none ((dC bk o (1285 + 64 * n)).put 1041 (.list ([] ++ bk)))) (none : Rs AV)) fun _ τ => some (.next, [(S "rows", .id 1282)], τ) := by
  rcases hn with rfl | rfl | rfl | rfl
  · kernel_rfl
  · kernel_rfl
  · kernel_rfl
  · kernel_rfl
theorem extC' (P : Params) {bk : List AV} (o : List (Nat × AO)) {n : Nat} (hn : N4 n) (hl : bk.length ≤ 900) : (run (tab P) 54).ex feY (yS 1) [(S "rows", .id 1282)] (dC bk o (1285 + 64 * n)) = some (.next, [(S "rows", .id 1282)], (dC bk o (1285 + 64 * n)).put 1041 (.list bk)) := by
  rw [extC P bk o n hn, List.nil_append, Nat.ble_eq_true_of_le hl]; rfl
/- the table, for any list of what was laid before -/
theorem onlyA_false {α : Type} {f g : Kd → Option α} {κ : Kd} (h : onlyA false f κ = onlyA false g κ) (a : adds κ = false) : f κ = g κ := by
  unfold onlyA at h
  rw [a] at h
  exact h
theorem onlyA_true {α : Type} {f g : Kd → Option α} {κ : Kd} (h : onlyA true f κ = onlyA true g κ) (a : adds κ = true) : f κ = g κ := by
  unfold onlyA at h
  rw [a] at h
  exact h
noncomputable def lcLb : Nat → Lc
  | 0 => lcL0 []
  | j + 1 => lcL0 [(S "at", .int (Int.ofNat j)), (S "cell", .id (1297 + 64 * j))]
noncomputable def lcLa (i : Nat) : Lc := match i with
  | 0 => lcL0 [(S "at", .int (Int.ofNat 0))]
  | j + 1 => lcL0 [(S "at", .int (Int.ofNat (j + 1))), (S "cell", .id (1297 + 64 * j))]
theorem tC0 (P : Params) (pr ar bk : List AV) (k : Int) (κ : Kd) (hl : bk.length ≤ 0) : turnC P 0 (lcLa 0) pr ar bk k κ = endC 0 (lcLa 0) (lcLb 1) pr ar bk k κ := by
  cases a : adds κ with
  | false => exact onlyA_false (tab33_ext (tCi0 P pr ar bk k) κ) a
  | true =>
    match bk, hl with
    | [], _ => exact onlyA_true (tab33_ext (tCp00 P pr ar k) κ) a
    | b0 :: r, h => exact absurd h (by simp only [List.length_cons]; omega)
theorem tC1 (P : Params) (pr ar bk : List AV) (k : Int) (κ : Kd) (hl : bk.length ≤ 1) : turnC P 1 (lcLa 1) pr ar bk k κ = endC 1 (lcLa 1) (lcLb 2) pr ar bk k κ := by
  cases a : adds κ with
  | false => exact onlyA_false (tab33_ext (tCi1 P (.id 1297) pr ar bk k) κ) a
  | true =>
    match bk, hl with
    | [], _ => exact onlyA_true (tab33_ext (tCp10 P (.id 1297) pr ar k) κ) a
    | [b0], _ => exact onlyA_true (tab33_ext (tCp11 P (.id 1297) b0 pr ar k) κ) a
    | b0 :: b1 :: r, h => exact absurd h (by simp only [List.length_cons]; omega)
theorem tC2 (P : Params) (pr ar bk : List AV) (k : Int) (κ : Kd) (hl : bk.length ≤ 2) : turnC P 2 (lcLa 2) pr ar bk k κ = endC 2 (lcLa 2) (lcLb 3) pr ar bk k κ := by
  cases a : adds κ with
  | false => exact onlyA_false (tab33_ext (tCi2 P (.id 1361) pr ar bk k) κ) a
  | true =>
    match bk, hl with
    | [], _ => exact onlyA_true (tab33_ext (tCp20 P (.id 1361) pr ar k) κ) a
    | [b0], _ => exact onlyA_true (tab33_ext (tCp21 P (.id 1361) b0 pr ar k) κ) a
    | [b0, b1], _ => exact onlyA_true (tab33_ext (tCp22 P (.id 1361) b0 b1 pr ar k) κ) a
    | b0 :: b1 :: b2 :: r, h => exact absurd h (by simp only [List.length_cons]; omega)
theorem tC3 (P : Params) (pr ar bk : List AV) (k : Int) (κ : Kd) (hl : bk.length ≤ 3) : turnC P 3 (lcLa 3) pr ar bk k κ = endC 3 (lcLa 3) (lcLb 4) pr ar bk k κ := by
  cases a : adds κ with
  | false => exact onlyA_false (tab33_ext (tCi3 P (.id 1425) pr ar bk k) κ) a
  | true =>
    match bk, hl with
    | [], _ => exact onlyA_true (tab33_ext (tCp30 P (.id 1425) pr ar k) κ) a
    | [b0], _ => exact onlyA_true (tab33_ext (tCp31 P (.id 1425) b0 pr ar k) κ) a
    | [b0, b1], _ => exact onlyA_true (tab33_ext (tCp32 P (.id 1425) b0 b1 pr ar k) κ) a
    | [b0, b1, b2], _ => exact onlyA_true (tab33_ext (tCp33 P (.id 1425) b0 b1 b2 pr ar k) κ) a
    | b0 :: b1 :: b2 :: b3 :: r, h => exact absurd h (by simp only [List.length_cons]; omega)
theorem tC (P : Params) (i : Nat) (hi : i < 4) (pr ar bk : List AV) (k : Int) (κ : Kd) (hl : bk.length ≤ i) : turnC P i (lcLa i) pr ar bk k κ = endC i (lcLa i) (lcLb (i + 1)) pr ar bk k κ := by
  match i, hi with
  | 0, _ => exact tC0 P pr ar bk k κ hl
  | 1, _ => exact tC1 P pr ar bk k κ hl
  | 2, _ => exact tC2 P pr ar bk k κ hl
  | 3, _ => exact tC3 P pr ar bk k κ hl
theorem asgC (P : Params) (i : Nat) (hi : i < 4) (σ' : AS) : asgT (tab P) (run (tab P) 50) (feL P) (forT (lS P 1)) (.int (Int.ofNat i)) (lcLb i) σ' = some (.next, lcLa i, σ') := by
  match i, hi with
  | 0, _ => kernel_rfl
  | 1, _ => kernel_rfl
  | 2, _ => kernel_rfl
  | 3, _ => kernel_rfl
/- the state after i turns -/
noncomputable def celI (i : Nat) : List Nat := [1296 + 64 * i, 1297 + 64 * i, 1312 + 64 * i]
noncomputable def cids : Nat → Nat → List Nat
  | _, 0 => []
  | i, n + 1 => celI i ++ cids (i + 1) n
noncomputable def celG (κ : Nat → Kd) (k : Nat → Int) (j : Nat) : GF := ovL (celO j (κ j) (k j)) (fun _ => .none)
noncomputable def GC (n : Nat) (κ : Nat → Kd) (k : Nat → Int) (i : Nat) : GF := fun id => cond (Nat.blt id 1280) (ovL [(1039, .dct (nms 0 i)), (1029, .dict [(S "last", .int (Int.ofNat i))]), (0, .ctab tbC)] (G2 n κ k) id)
  (cond (Nat.beq id 1282) (some (.list (bks κ i))) (cond (Nat.blt 1285 id && Nat.blt ((id - 1285) / 64) i) (celG κ k ((id - 1285) / 64) id) .none))
noncomputable def DC (n : Nat) : List Nat := 1284 :: 1282 :: (D2 n ++ cids 0 4)
noncomputable def rmN (l : List Nat) : List Nat → List Nat
  | [] => []
  | i :: r => cond (memN l i) (rmN l r) (i :: rmN l r)
theorem RepOn.app {D D' : List Nat} {σ : AS} {G : GF} (R : RepOn D σ G) (R' : RepOn D' σ G) : RepOn (D ++ D') σ G := fun i hi => (memN_app hi).elim (R i) (R' i)
noncomputable def InvC (n : Nat) (κ : Nat → Kd) (k : Nat → Int) (i : Nat) (σ : AS) : Prop := RepOn (DC n) σ (ptG 1284 (.itR i n) (GC n κ k i)) ∧ keysLt σ.n σ.o = true ∧ σ.n = 1285 + 64 * i ∧ (0 < i → ∃ o, σ = ⟨(2, .cell (some (.id 1041))) :: (1041, .list []) :: (1282, .list (bks κ i)) :: o, 1285 + 64 * i⟩)
noncomputable def selC' (i : Nat) : List Nat := 2 :: 1041 :: 1282 :: 1039 :: 1029 :: 1025 :: 1024 :: 1030 :: 1038 :: 1037 :: 65 :: 66 :: (160 + 128 * i) :: (176 + 128 * i) :: (sSub ++ celI i)
theorem selC_eq (i : Nat) : selC i = selC' i ++ selV i := by kernel_rfl
noncomputable def preC' (i : Nat) (κ : Kd) (k : Int) (pr ar bk : List AV) : List (Nat × AO) := (2, .cell (some (.id 1041))) :: (1041, .list []) :: (1282, .list bk) :: (1039, .dct (nms 0 i)) :: (1029, .dict [(S "last", .int (Int.ofNat i))]) :: (1025, .inst 687 1024) :: (1024, .dict runD) :: (1030, .inst 240 1029) :: (1038, .inst 666 1037) :: (1037, .dict frmD) :: (65, .list (idl 160 0 (i + 1) ++ pr)) :: (66, .list (idl 176 0 (i + 1) ++ ar)) :: (160 + 128 * i, .tup (parO i κ)) :: (176 + 128 * i, .tup (actO i κ k)) :: subO
theorem preC_eq (i : Nat) (κ : Kd) (k : Int) (pr ar bk : List AV) : preC' i κ k pr ar bk ++ vob i κ = preC i i κ k pr ar bk (nms 0 i) [] := by kernel_rfl
/- the values' objects and the cells, after a turn -/
noncomputable def aft (i : Nat) (x : Kd) (k : Int) (G : GF) : GF := fun id => match fnd (celO i x k ++ vob i x) id with | some a => some a | .none => G id
theorem aftV0 (x : Kd) (k : Int) : mpG (aft 0 x k (ovL (blkA 0 x k) (fun _ => none))) (selV 0) = mpG (ovL (blkA 0 x k) (fun _ => none)) (selV 0) := tab33_ext (f := fun x => mpG (aft 0 x k (ovL (blkA 0 x k) (fun _ => none))) (selV 0)) (g := fun x => mpG (ovL (blkA 0 x k) (fun _ => none)) (selV 0)) (by kernel_rfl) x
theorem aftC0 (x : Kd) (k : Int) : mpG (aft 0 x k (fun _ => none)) (celI 0) = mpG (ovL (celO 0 x k) (fun _ => none)) (celI 0) := tab33_ext (f := fun x => mpG (aft 0 x k (fun _ => none)) (celI 0)) (g := fun x => mpG (ovL (celO 0 x k) (fun _ => none)) (celI 0)) (by kernel_rfl) x
theorem aftV1 (x : Kd) (k : Int) : mpG (aft 1 x k (ovL (blkA 1 x k) (fun _ => none))) (selV 1) = mpG (ovL (blkA 1 x k) (fun _ => none)) (selV 1) := tab33_ext (f := fun x => mpG (aft 1 x k (ovL (blkA 1 x k) (fun _ => none))) (selV 1)) (g := fun x => mpG (ovL (blkA 1 x k) (fun _ => none)) (selV 1)) (by kernel_rfl) x
theorem aftC1 (x : Kd) (k : Int) : mpG (aft 1 x k (fun _ => none)) (celI 1) = mpG (ovL (celO 1 x k) (fun _ => none)) (celI 1) := tab33_ext (f := fun x => mpG (aft 1 x k (fun _ => none)) (celI 1)) (g := fun x => mpG (ovL (celO 1 x k) (fun _ => none)) (celI 1)) (by kernel_rfl) x
theorem aftV2 (x : Kd) (k : Int) : mpG (aft 2 x k (ovL (blkA 2 x k) (fun _ => none))) (selV 2) = mpG (ovL (blkA 2 x k) (fun _ => none)) (selV 2) := tab33_ext (f := fun x => mpG (aft 2 x k (ovL (blkA 2 x k) (fun _ => none))) (selV 2)) (g := fun x => mpG (ovL (blkA 2 x k) (fun _ => none)) (selV 2)) (by kernel_rfl) x
theorem aftC2 (x : Kd) (k : Int) : mpG (aft 2 x k (fun _ => none)) (celI 2) = mpG (ovL (celO 2 x k) (fun _ => none)) (celI 2) := tab33_ext (f := fun x => mpG (aft 2 x k (fun _ => none)) (celI 2)) (g := fun x => mpG (ovL (celO 2 x k) (fun _ => none)) (celI 2)) (by kernel_rfl) x
theorem aftV3 (x : Kd) (k : Int) : mpG (aft 3 x k (ovL (blkA 3 x k) (fun _ => none))) (selV 3) = mpG (ovL (blkA 3 x k) (fun _ => none)) (selV 3) := tab33_ext (f := fun x => mpG (aft 3 x k (ovL (blkA 3 x k) (fun _ => none))) (selV 3)) (g := fun x => mpG (ovL (blkA 3 x k) (fun _ => none)) (selV 3)) (by kernel_rfl) x
theorem aftC3 (x : Kd) (k : Int) : mpG (aft 3 x k (fun _ => none)) (celI 3) = mpG (ovL (celO 3 x k) (fun _ => none)) (celI 3) := tab33_ext (f := fun x => mpG (aft 3 x k (fun _ => none)) (celI 3)) (g := fun x => mpG (ovL (celO 3 x k) (fun _ => none)) (celI 3)) (by kernel_rfl) x
theorem aftV (i : Nat) (hi : i < 4) (x : Kd) (k : Int) : mpG (aft i x k (ovL (blkA i x k) (fun _ => none))) (selV i) = mpG (ovL (blkA i x k) (fun _ => none)) (selV i) := by
  match i, hi with
  | 0, _ => exact aftV0 x k
  | 1, _ => exact aftV1 x k
  | 2, _ => exact aftV2 x k
  | 3, _ => exact aftV3 x k
theorem aftC (i : Nat) (hi : i < 4) (x : Kd) (k : Int) : mpG (aft i x k (fun _ => none)) (celI i) = mpG (ovL (celO i x k) (fun _ => none)) (celI i) := by
  match i, hi with
  | 0, _ => exact aftC0 x k
  | 1, _ => exact aftC1 x k
  | 2, _ => exact aftC2 x k
  | 3, _ => exact aftC3 x k
noncomputable def lOk (i : Nat) (κ : Nat → Kd) (k : Nat → Int) (pr ar : List AV) : List (Nat × AO) := preC i (i + 1) (κ i) (k i) pr ar (bks κ (i + 1)) (nms 0 (i + 1)) (celO i (κ i) (k i))
noncomputable def lBad (i : Nat) (κ : Nat → Kd) (k : Nat → Int) (pr ar : List AV) : List (Nat × AO) := preC i (i + 1) (κ i) (k i) pr ar (bks κ i) (nms 0 i) (celO i (κ i) (k i))
noncomputable def Gn (n i : Nat) (κ : Nat → Kd) (k : Nat → Int) : GF := ptG 1284 (.itR (i + 1) n) (ptG 1284 (.itR i n) (GC n κ k i))
/-- one turn of the loop that lays the formals, from what is reckoned of it -/
theorem stepC' (P : Params) (n i : Nat) (κ : Nat → Kd) (k : Nat → Int) {pr ar : List AV} {σ : AS} (I : InvC n κ k i σ) (hi : i < 4) (hj : memN (DC n) 1284 = true) (hs : subN (selC i) (DC n) = true) (hfr : (tab P).fr 576 (.int (Int.ofNat i)) = some ⟨selC i, [], 64⟩)
    (hnx : nextG (DC n) (ptG 1284 (.itR i n) (GC n κ k i)) 1284 = some (some (.int (Int.ofNat i), .itR (i + 1) n)))
    (h1 : pkG (selC' i) (Gn n i κ k) = preC' i (κ i) (k i) pr ar (bks κ i)) (h2 : mpG (Gn n i κ k) (selV i) = mpG (ovL (blkA i (κ i) (k i)) (fun _ => none)) (selV i))
    (g1 : mpG (ovI (selC i) (lOk i κ k pr ar) (Gn n i κ k)) (rmN (selV i ++ celI i) (DC n)) = mpG (ptG 1284 (.itR (i + 1) n) (GC n κ k (i + 1))) (rmN (selV i ++ celI i) (DC n)))
    (g2 : mpG (ovI (selC i) (lOk i κ k pr ar) (Gn n i κ k)) (selV i) = mpG (aft i (κ i) (k i) (ovL (blkA i (κ i) (k i)) (fun _ => none))) (selV i))
    (g2' : mpG (ptG 1284 (.itR (i + 1) n) (GC n κ k (i + 1))) (selV i) = mpG (ovL (blkA i (κ i) (k i)) (fun _ => none)) (selV i))
    (g3 : mpG (ovI (selC i) (lOk i κ k pr ar) (Gn n i κ k)) (celI i) = mpG (aft i (κ i) (k i) (fun _ => none)) (celI i))
    (g3' : mpG (ptG 1284 (.itR (i + 1) n) (GC n κ k (i + 1))) (celI i) = mpG (ovL (celO i (κ i) (k i)) (fun _ => none)) (celI i))
    (hsub : subN (rmN (selV i ++ celI i) (DC n)) (DC n) = true) (hsub2 : subN (selV i ++ celI i) (DC n) = true) (hcov : subN (DC n) (rmN (selV i ++ celI i) (DC n) ++ (selV i ++ celI i)) = true) :
    (bad (κ i) = false → ∃ σ', InvC n κ k (i + 1) σ' ∧ ∀ m, forN (tab P) (run (tab P) 50) (feL P) (forT (lS P 1)) (forBd (lS P 1)) 576 1284 (m + 1) (lcLb i) σ = forN (tab P) (run (tab P) 50) (feL P) (forT (lS P 1)) (forBd (lS P 1)) 576 1284 m (lcLb (i + 1)) σ') ∧
      (bad (κ i) = true → ∃ lc' σ', RepOn (DC n) σ' (ovI (selC i) (lBad i κ k pr ar) (Gn n i κ k)) ∧ σ'.n = 1285 + 64 * (i + 1) ∧ ∀ m, forN (tab P) (run (tab P) 50) (feL P) (forT (lS P 1)) (forBd (lS P 1)) 576 1284 (m + 1) (lcLb i) σ = some (.exc, lc', σ')) := by
  have hp : pkG (selC i) (Gn n i κ k) = preC i i (κ i) (k i) pr ar (bks κ i) (nms 0 i) [] := by
    rw [selC_eq, pkG_app, h1, pkG_congr h2, vob_pk i hi, preC_eq]
  obtain ⟨o, a1, a2, a3, a4⟩ := loop_turn (T := tab P) (r := run (tab P) 50) (fe := feL P) (t := forT (lS P 1)) (body := forBd (lS P 1)) (ln := 576) (f := ⟨selC i, [], 64⟩) (lc₁ := lcLa i) (lc₂ := cond (bad (κ i)) (lcLa i) (lcLb (i + 1))) (fl := flB (κ i)) (l := outC i (κ i) (k i) pr ar (bks κ i)) I.1 I.2.1 I.2.2.1 hj hnx (fun σ' _ => asgC P i hi σ') hfr hs
    (by
      have e : (selC i ++ addN (1285 + 64 * i) []) = selC i := List.append_nil _
      show tsum (selC i ++ addN (1285 + 64 * i) []) (ky (pkG (selC i) (Gn n i κ k))) _ (exs _ _ _ _ ⟨pkG (selC i) (Gn n i κ k), _⟩) = _
      rw [e, hp]; exact tC P i hi pr ar (bks κ i) (k i) (κ i) (bks_len κ i))
  rw [show selC i ++ addN (1285 + 64 * i) [] = selC i from List.append_nil _] at a1
  constructor
  · intro hb
    rw [show outC i (κ i) (k i) pr ar (bks κ i) = lOk i κ k pr ar by unfold outC; rw [hb]; rfl] at a1 a2 a3
    rw [hb, cond_false] at a3
    refine ⟨_, ⟨?_, a2, by show 1285 + 64 * i + 64 = _; omega, fun _ => ⟨_, rfl⟩⟩, fun m => a3 (by unfold flB; rw [hb]; rfl) m⟩
    have b1 := (RepOn.sub a1 hsub).congr g1
    have sv : subN (selV i) (DC n) = true := by
      have h := subN_mem hsub2
      exact (fun (l : List Nat) (h : ∀ x ∈ l, memN (DC n) x = true) => by
        induction l with
        | nil => rfl
        | cons y l ih => rw [subN_2]; rw [h y (.head _)]; exact ih fun x hx => h x (.tail _ hx) : ∀ l : List Nat, (∀ x ∈ l, memN (DC n) x = true) → subN l (DC n) = true) _ fun x hx => h x (List.mem_append_left _ hx)
    have sc : subN (celI i) (DC n) = true := by
      have h := subN_mem hsub2
      exact (fun (l : List Nat) (h : ∀ x ∈ l, memN (DC n) x = true) => by
        induction l with
        | nil => rfl
        | cons y l ih => rw [subN_2]; rw [h y (.head _)]; exact ih fun x hx => h x (.tail _ hx) : ∀ l : List Nat, (∀ x ∈ l, memN (DC n) x = true) → subN l (DC n) = true) _ fun x hx => h x (List.mem_append_right _ hx)
    have b2 := (RepOn.sub a1 sv).congr ((g2.trans (aftV i hi _ _)).trans g2'.symm)
    have b3 := (RepOn.sub a1 sc).congr ((g3.trans (aftC i hi _ _)).trans g3'.symm)
    exact (b1.app (b2.app b3)).sub hcov
  · intro hb
    rw [show outC i (κ i) (k i) pr ar (bks κ i) = lBad i κ k pr ar by unfold outC; rw [hb]; rfl] at a1 a4
    exact ⟨_, _, a1, by show 1285 + 64 * i + 64 = _; omega, fun m => a4 (by unfold flB; rw [hb]; rfl) m⟩
end Mine
end

section
open PySem PySem.W PyProof.Rows PySem.Calls
set_option Elab.async false
set_option maxRecDepth 100000
set_option maxHeartbeats 0
set_option linter.unusedVariables false
namespace Mine
noncomputable def LN (P : Params) (m : Nat) (lc : Lc) (σ : AS) : Option (Fl × Lc × AS) := forN (tab P) (run (tab P) 50) (feL P) (forT (lS P 1)) (forBd (lS P 1)) 576 1284 m lc σ
noncomputable def dis : Nat → Nat → List Nat
  | _, 0 => []
  | i, n + 1 => (193 + 128 * i) :: dis (i + 1) n
noncomputable def D9 (n i : Nat) : List Nat := [0, 1, 2, 3, 4, 65, 67, 1037, 1038, 1039] ++ (bids 0 i ++ (cids 0 i ++ dis i (n - i)))
noncomputable def D3 (n : Nat) : List Nat := [0, 1, 2, 3, 4, 5, 65, 66, 67, 68, 1025, 1037, 1038, 1039, 1041] ++ (sSub ++ (bids 0 n ++ cids 0 n))
noncomputable def G3 (n : Nat) (κ : Nat → Kd) (k : Nat → Int) : GF := ptG 1041 (.list (bks κ n)) (GC n κ k n)
noncomputable def prI (n i : Nat) : List AV := idl 160 (i + 1) (n - (i + 1))
noncomputable def arI (n i : Nat) : List AV := idl 176 (i + 1) (n - (i + 1))
noncomputable def rmI (n i : Nat) : List Nat := rmN (selV i ++ celI i) (DC n)
theorem factC (κ : Nat → Kd) (k : Nat → Int) {n i : Nat} (hn : N4 n) (hi : i < n) : (subN (selC i) (DC n), pkG (selC' i) (Gn n i κ k), mpG (Gn n i κ k) (selV i), mpG (ovI (selC i) (lOk i κ k (prI n i) (arI n i)) (Gn n i κ k)) (rmI n i), mpG (ovI (selC i) (lOk i κ k (prI n i) (arI n i)) (Gn n i κ k)) (selV i),
      mpG (ptG 1284 (.itR (i + 1) n) (GC n κ k (i + 1))) (selV i), mpG (ovI (selC i) (lOk i κ k (prI n i) (arI n i)) (Gn n i κ k)) (celI i), mpG (ptG 1284 (.itR (i + 1) n) (GC n κ k (i + 1))) (celI i), subN (rmI n i) (DC n), subN (selV i ++ celI i) (DC n), subN (DC n) (rmI n i ++ (selV i ++ celI i)), subN (D9 n i) (DC n), mpG (ovI (selC i) (lBad i κ k (prI n i) (arI n i)) (Gn n i κ k)) (D9 n i)) =
    (true, preC' i (κ i) (k i) (prI n i) (arI n i) (bks κ i), mpG (ovL (blkA i (κ i) (k i)) (fun _ => none)) (selV i), mpG (ptG 1284 (.itR (i + 1) n) (GC n κ k (i + 1))) (rmI n i), mpG (aft i (κ i) (k i) (ovL (blkA i (κ i) (k i)) (fun _ => none))) (selV i),
      mpG (ovL (blkA i (κ i) (k i)) (fun _ => none)) (selV i), mpG (aft i (κ i) (k i) (fun _ => none)) (celI i), mpG (ovL (celO i (κ i) (k i)) (fun _ => none)) (celI i), true, true, true, true, mpG (GC n κ k i) (D9 n i)) :=
  tabP_ext (f := fun n i => (subN (selC i) (DC n), pkG (selC' i) (Gn n i κ k), mpG (Gn n i κ k) (selV i), mpG (ovI (selC i) (lOk i κ k (prI n i) (arI n i)) (Gn n i κ k)) (rmI n i), mpG (ovI (selC i) (lOk i κ k (prI n i) (arI n i)) (Gn n i κ k)) (selV i),
      mpG (ptG 1284 (.itR (i + 1) n) (GC n κ k (i + 1))) (selV i), mpG (ovI (selC i) (lOk i κ k (prI n i) (arI n i)) (Gn n i κ k)) (celI i), mpG (ptG 1284 (.itR (i + 1) n) (GC n κ k (i + 1))) (celI i), subN (rmI n i) (DC n), subN (selV i ++ celI i) (DC n), subN (DC n) (rmI n i ++ (selV i ++ celI i)), subN (D9 n i) (DC n), mpG (ovI (selC i) (lBad i κ k (prI n i) (arI n i)) (Gn n i κ k)) (D9 n i)))
    (g := fun n i => (true, preC' i (κ i) (k i) (prI n i) (arI n i) (bks κ i), mpG (ovL (blkA i (κ i) (k i)) (fun _ => none)) (selV i), mpG (ptG 1284 (.itR (i + 1) n) (GC n κ k (i + 1))) (rmI n i), mpG (aft i (κ i) (k i) (ovL (blkA i (κ i) (k i)) (fun _ => none))) (selV i),
      mpG (ovL (blkA i (κ i) (k i)) (fun _ => none)) (selV i), mpG (aft i (κ i) (k i) (fun _ => none)) (celI i), mpG (ovL (celO i (κ i) (k i)) (fun _ => none)) (celI i), true, true, true, true, mpG (GC n κ k i) (D9 n i))) (by kernel_rfl) hn hi
theorem stepC (P : Params) {n i : Nat} (hn : N4 n) (hi : i < n) (κ : Nat → Kd) (k : Nat → Int) {σ : AS} (I : InvC n κ k i σ) :
    (bad (κ i) = false → ∃ σ', InvC n κ k (i + 1) σ' ∧ ∀ m, LN P (m + 1) (lcLb i) σ = LN P m (lcLb (i + 1)) σ') ∧ (bad (κ i) = true → ∃ lc' σ', RepOn (D9 n i) σ' (GC n κ k i) ∧ σ'.n ≤ 1600 ∧ ∀ m, LN P (m + 1) (lcLb i) σ = some (.exc, lc', σ')) := by
  have h4 : i < 4 := by have := n4_le hn; omega
  have h := factC κ k hn hi
  obtain ⟨a1, a2⟩ := stepC' P n i κ k (pr := prI n i) (ar := arI n i) I h4 rfl (congrArg (·.1) h) rfl (by show cond (Nat.blt i n) _ _ = _; rw [blt_true hi]; rfl) (congrArg (·.2.1) h) (congrArg (·.2.2.1) h) (congrArg (·.2.2.2.1) h) (congrArg (·.2.2.2.2.1) h) (congrArg (·.2.2.2.2.2.1) h) (congrArg (·.2.2.2.2.2.2.1) h) (congrArg (·.2.2.2.2.2.2.2.1) h) (congrArg (·.2.2.2.2.2.2.2.2.1) h) (congrArg (·.2.2.2.2.2.2.2.2.2.1) h) (congrArg (·.2.2.2.2.2.2.2.2.2.2.1) h)
  refine ⟨a1, fun hb => ?_⟩
  obtain ⟨lc', σ', b1, b2, b3⟩ := a2 hb
  exact ⟨lc', σ', (RepOn.sub b1 (D' := D9 n i) (congrArg (·.2.2.2.2.2.2.2.2.2.2.2.1) h)).congr (congrArg (·.2.2.2.2.2.2.2.2.2.2.2.2) h), by omega, b3⟩
theorem endCn (P : Params) {n : Nat} (hn : N4 n) (κ : Nat → Kd) (k : Nat → Int) {σ : AS} (I : InvC n κ k n σ) (lc : Lc) : ∃ o, (∀ m, LN P (m + 1) lc σ = some (.next, lc, dC (bks κ n) o (1285 + 64 * n))) ∧ RepOn (D3 n) ((dC (bks κ n) o (1285 + 64 * n)).put 1041 (.list (bks κ n))) (G3 n κ k) := by
  have hnx : nextG (DC n) (ptG 1284 (.itR n n) (GC n κ k n)) 1284 = some none := by rcases hn with rfl | rfl | rfl | rfl <;> kernel_rfl
  have hj : memN (DC n) 1284 = true := rfl
  have h0 : 0 < n := by rcases hn with rfl | rfl | rfl | rfl <;> omega
  obtain ⟨h1, h2⟩ := loop_end (T := tab P) (r := run (tab P) 50) (fe := feL P) (t := forT (lS P 1)) (body := forBd (lS P 1)) (ln := 576) (lc := lc) I.1 I.2.1 hj hnx
  obtain ⟨o, e⟩ := I.2.2.2 h0
  subst e
  refine ⟨o, h2, ?_⟩
  have R := RepOn.put (j := 1041) (a := .list (bks κ n)) h1 (show 1041 < 1285 + 64 * n by omega)
  exact (R.sub (D' := D3 n) (by rcases hn with rfl | rfl | rfl | rfl <;> kernel_rfl)).congr (by rcases hn with rfl | rfl | rfl | rfl <;> kernel_rfl)
theorem chainOk (P : Params) {n : Nat} (hn : N4 n) (κ : Nat → Kd) (k : Nat → Int) (hb : ∀ j, j < n → bad (κ j) = false) : ∀ d i, i + d = n → ∀ {σ : AS}, InvC n κ k i σ → ∀ m, ∃ o, LN P (m + d + 1) (lcLb i) σ = some (.next, lcLb n, dC (bks κ n) o (1285 + 64 * n)) ∧ RepOn (D3 n) ((dC (bks κ n) o (1285 + 64 * n)).put 1041 (.list (bks κ n))) (G3 n κ k)
  | 0, i, hid, σ, I, m => by
    have : i = n := hid
    subst this
    obtain ⟨o, h1, h2⟩ := endCn P hn κ k I (lcLb i)
    exact ⟨o, h1 m, h2⟩
  | d + 1, i, hid, σ, I, m => by
    have hi : i < n := lt_end hid
    obtain ⟨σ', I', g1⟩ := (stepC P hn hi κ k I).1 (hb i hi)
    obtain ⟨o, e, r⟩ := chainOk P hn κ k hb d (i + 1) ((Nat.succ_add i d).trans hid) I' m
    exact ⟨o, (g1 (m + d + 1)).trans e, r⟩
theorem chainBad (P : Params) {n : Nat} (hn : N4 n) (κ : Nat → Kd) (k : Nat → Int) {z : Nat} (hz : z < n) (hb : ∀ j, j < z → bad (κ j) = false) (hbz : bad (κ z) = true) : ∀ d i, i + d = z → ∀ {σ : AS}, InvC n κ k i σ → ∀ m, ∃ lc' σ', LN P (m + d + 1) (lcLb i) σ = some (.exc, lc', σ') ∧ RepOn (D9 n z) σ' (GC n κ k z) ∧ σ'.n ≤ 1600
  | 0, i, hid, σ, I, m => by
    have : i = z := hid
    subst this
    obtain ⟨lc', σ', h1, h2, h3⟩ := (stepC P hn hz κ k I).2 hbz
    exact ⟨lc', σ', h3 m, h1, h2⟩
  | d + 1, i, hid, σ, I, m => by
    have hi : i < z := lt_end hid
    obtain ⟨σ', I', g1⟩ := (stepC P hn (Nat.lt_trans hi hz) κ k I).1 (hb i hi)
    obtain ⟨lc', σ2, e, r⟩ := chainBad P hn κ k hz hb hbz d (i + 1) ((Nat.succ_add i d).trans hid) I' m
    exact ⟨lc', σ2, (g1 (m + d + 1)).trans e, r⟩
theorem ltB {n : Nat} (hn : N4 n) : ltN 1280 (D2 n) = true := by rcases hn with rfl | rfl | rfl | rfl <;> kernel_rfl
noncomputable def σC (n : Nat) (κ : Nat → Kd) (k : Nat → Int) : AS := mkC (mkS (D2 n) (GB n κ k) 1280)
noncomputable def σC0 (n : Nat) (κ : Nat → Kd) (k : Nat → Int) : AS := ⟨[(1284, .itR 0 n), (1283, .rng n), (1282, .list [])] ++ (σC n κ k).o, 1285⟩
theorem invC0 {n : Nat} (hn : N4 n) (κ : Nat → Kd) (k : Nat → Int) : InvC n κ k 0 (σC0 n κ k) := by
  have lt := ltB hn
  have R0 : RepOn (DC n) (mkS (D2 n) (GB n κ k) 1280) (GB n κ k) := mkS_rep2 (by rcases hn with rfl | rfl | rfl | rfl <;> kernel_rfl)
  have R1 := ((R0.put (j := 0) (a := .ctab tbC) (show 0 < 1280 by decide)).new (a := .code qC)).new (a := .fn (fdA (sL 7)) (.stmts (fdB (sL 7))) (fdS (sL 7)) clC qC 1280)
  have K0 : keysLt 1282 (σC n κ k).o = true := by
    show keysLt 1282 ([(1281, _), (1280, _), (0, _)] ++ pkG (D2 n) (GB n κ k)) = true
    exact keysLt_app rfl (keysLt_mono (by decide) (keysLt_pkG lt))
  have R2 := RepOn.push (l := [(1284, .itR 0 n), (1283, .rng n), (1282, .list [])]) (n := 1282) (n' := 1285) (o := (σC n κ k).o) R1 (by decide) K0 rfl
  exact ⟨R2.congr (by rcases hn with rfl | rfl | rfl | rfl <;> kernel_rfl), keysLt_app rfl (keysLt_mono (show 1282 ≤ 1285 by decide) K0), rfl, fun h => absurd h (Nat.lt_irrefl 0)⟩
theorem callC_eq (P : Params) {n : Nat} (hn : N4 n) (κ : Nat → Kd) (k : Nat → Int) : (run (tab P) 56).ca (.glob 883) [.id 1281] (σC n κ k) =
    wordOf (retOf (exsK (run (tab P) 54) feY [yS 1] (gx [] (retOf (exsK (run (tab P) 51) (feL P) [lS P 2] (LN P 64 (lcLb 0) (σC0 n κ k)))) fun v τ => nx (st1 feY (S "rows") v [] τ)))) := by
  have es : mkS (D2 n) (GB n κ k) 1280 = ⟨fxC n (duL κ k n) ++ pkG (sSub ++ bids 0 n) (GB n κ k), 1280⟩ := by
    show (⟨pkG (fxI ++ (sSub ++ bids 0 n)) (GB n κ k), 1280⟩ : AS) = _
    rw [pkG_app, fxC_pk]
  have T := entC P frT n (duL κ k n) (pkG (sSub ++ bids 0 n) (GB n κ k)) hn
  rw [← es] at T
  exact T
theorem lcLb_n {n : Nat} (hn : N4 n) : ∃ a b, lcLb n = lcL0 [(S "at", a), (S "cell", b)] := by
  rcases hn with rfl | rfl | rfl | rfl <;> exact ⟨_, _, rfl⟩
theorem st1_rows (v : AV) (σ : AS) : st1 feY (S "rows") v [] σ = some ([(S "rows", v)], σ) := by kernel_rfl
theorem wordC_ok (P : Params) {n : Nat} (hn : N4 n) (κ : Nat → Kd) (k : Nat → Int) (hb : ∀ j, j < n → bad (κ j) = false) : ∃ σ₂, (run (tab P) 56).ca (.glob 883) [.id 1281] (σC n κ k) = some (some (.str (dueS κ n)), σ₂) ∧ RepOn (D3 n) σ₂ (G3 n κ k) ∧ σ₂.n ≤ 1600 := by
  have h4 := n4_le hn
  obtain ⟨o, h1, h2⟩ := chainOk P hn κ k hb n 0 (Nat.zero_add n) (invC0 hn κ k) (63 - n)
  rw [n64 hn] at h1
  refine ⟨_, ?_, h2, by show 1285 + 64 * n ≤ 1600; omega⟩
  obtain ⟨a, b, e⟩ := lcLb_n hn
  rw [callC_eq P hn κ k, h1, e]
  show wordOf (retOf (exsK (run (tab P) 54) feY [yS 1] (gx [] (retOf (exs (run (tab P) 51) (feL P) [lS P 2] (lcL0 [(S "at", a), (S "cell", b)]) (dC (bks κ n) o (1285 + 64 * n)))) fun v τ => nx (st1 feY (S "rows") v [] τ)))) = _
  rw [retC]
  show wordOf (retOf (exsK (run (tab P) 54) feY [yS 1] (nx (st1 feY (S "rows") (.id 1282) [] (dC (bks κ n) o (1285 + 64 * n)))))) = _
  rw [st1_rows]
  show wordOf (retOf (exs (run (tab P) 54) feY [yS 1] [(S "rows", .id 1282)] (dC (bks κ n) o (1285 + 64 * n)))) = _
  rw [exs_one (extC' P o hn (by have := bks_len κ n; omega))]
  unfold dueS
  rw [anyBad_false hb]
  rfl
theorem wordC_bad (P : Params) {n : Nat} (hn : N4 n) (κ : Nat → Kd) (k : Nat → Int) {z : Nat} (hz : z < n) (hb : ∀ j, j < z → bad (κ j) = false) (hbz : bad (κ z) = true) : ∃ σ₂, (run (tab P) 56).ca (.glob 883) [.id 1281] (σC n κ k) = some (some (.str (dueS κ n)), σ₂) ∧ RepOn (D9 n z) σ₂ (GC n κ k z) ∧ σ₂.n ≤ 1600 := by
  have h4 := n4_le hn
  obtain ⟨lc', σ', h1, h2, h3⟩ := chainBad P hn κ k hz hb hbz z 0 (Nat.zero_add z) (invC0 hn κ k) (63 - z)
  rw [Nat.sub_add_cancel (Nat.le_trans (Nat.le_of_lt hz) (Nat.le_trans (n4_le hn) (by decide : 4 ≤ 63)))] at h1
  refine ⟨σ', ?_, h2, h3⟩
  rw [callC_eq P hn κ k, h1]
  unfold dueS
  rw [anyBad_true hbz hz]
  rfl
/- statement 8 -/
noncomputable def lc8 (a b c d e : AV) (y : Str) : Lc := lcR a b c d e [(S "due", .str y), (S "lay", .id 1281)]
noncomputable def wrap8 (P : Params) (lc : Lc) (y : Str) (x : Rs AV) : Option (Fl × Lc × AS) := gx lc (bd x fun v τ => lift τ (cmpOf (tab P) τ .NotEq v (.str y))) fun c τ => cond c (exs (run (tab P) 58) fe0 (ifB (sL 8)) lc τ) (exs (run (tab P) 58) fe0 [] lc τ)
theorem ent8 (P : Params) (a b c d e : AV) (y : Str) (o : List (Nat × AO)) : (run (tab P) 59).ex fe0 (sL 8) (lc8 a b c d e y) ⟨o, 1282⟩ = wrap8 P (lc8 a b c d e y) y ((run (tab P) 56).ca (.glob 883) [.id 1281] ⟨o, 1282⟩) := by kernel_rfl
theorem run8 (P : Params) (a b c d e : AV) (y : Str) {o : List (Nat × AO)} {σ₂ : AS} (h : (run (tab P) 56).ca (.glob 883) [.id 1281] ⟨o, 1282⟩ = some (some (.str y), σ₂)) : exs (run (tab P) 59) fe0 [sL 8] (lc8 a b c d e y) ⟨o, 1282⟩ = some (.next, lc8 a b c d e y, σ₂) := by
  refine exs_one ?_
  rw [ent8, h]
  show gx _ (lift σ₂ (notO (some (sEq y y)))) _ = _
  rw [sEq_refl]
  rfl
end Mine
end

section
open PySem PySem.W PyProof.Rows PySem.Calls
set_option Elab.async false
set_option maxRecDepth 100000
set_option maxHeartbeats 0
set_option linter.unusedVariables false
namespace Mine
/-- what _law_seen makes of a value -/
inductive Fm | u | v | t | g
inductive Tr (α : Type) | lf (a : α) | nd (a b c d : Tr α)
noncomputable def tabN {α : Type} : Nat → (List Fm → α) → Tr α
  | 0, F => .lf (F [])
  | n + 1, F => .nd (tabN n fun r => F (.u :: r)) (tabN n fun r => F (.v :: r)) (tabN n fun r => F (.t :: r)) (tabN n fun r => F (.g :: r))
theorem tabN_ext {α : Type} : ∀ {n : Nat} {F G : List Fm → α}, tabN n F = tabN n G → ∀ fs : List Fm, fs.length = n → F fs = G fs
  | 0, F, G, h, [], _ => by injection h
  | n + 1, F, G, h, f :: r, hl => by
    have hr : r.length = n := Nat.succ.inj hl
    injection h with h0 h1 h2 h3
    cases f with
    | u => exact tabN_ext h0 r hr
    | v => exact tabN_ext h1 r hr
    | t => exact tabN_ext h2 r hr
    | g => exact tabN_ext h3 r hr
noncomputable def lvF (j : Nat) (k : Int) : Fm → AV | .u => .glob 194 | .v => .num .inn k | .t => .id (114 + 128 * j) | .g => .id (115 + 128 * j)
noncomputable def voF (j : Nat) : Fm → List (Nat × AO) | .u => [] | .v => [] | .t => vob j (.tsk false .x) | .g => vob j (.grd .x)
noncomputable def dvF (j : Nat) (k : Int) : Fm → AV | .u => .str (S "unset") | .v => .num .inn k | .t => .id (193 + 128 * j) | .g => .id (193 + 128 * j)
noncomputable def doF (j : Nat) : Fm → List (Nat × AO) | .u => [] | .v => [] | .t => duO j (.tsk false .x) | .g => duO j (.grd .x)
noncomputable def pdG (j : Nat) (k : Int) : Fm → PyData | .u => .str (S "unset") | .v => .int k | .t => .tuple [.str (S "task"), .int (Int.ofNat (70 + j))] | .g => .tuple [.str (S "guard"), .int (Int.ofNat (80 + j))]
noncomputable def pds (k : Nat → Int) : Nat → List Fm → List PyData
  | _, [] => []
  | j, f :: r => pdG j (k j) f :: pds k (j + 1) r
noncomputable def dvs (k : Nat → Int) : Nat → List Fm → List AV
  | _, [] => []
  | j, f :: r => dvF j (k j) f :: dvs k (j + 1) r
noncomputable def lj (j : Nat) (m s c : AV) (k : Int) (f : Fm) : List (Nat × AO) := (160 + 128 * j, .tup [.str (fS j), m, s, .none]) :: (1297 + 64 * j, .inst 212 (1296 + 64 * j)) :: (1296 + 64 * j, .dict [(S "value", lvF j k f), (S "number", .int (Int.ofNat (j + 1))), (S "subtype", c)]) :: (doF j f ++ voF j f)
noncomputable def ljs (m s c : Nat → AV) (k : Nat → Int) : Nat → List Fm → List (Nat × AO)
  | _, [] => []
  | j, f :: r => lj j (m j) (s j) (c j) (k j) f ++ ljs m s c k (j + 1) r
theorem pds_lay (k : Nat → Int) : ∀ j fs, PyData.canLayAll0 (pds k j fs) = true
  | _, [] => rfl
  | j, f :: r => by
    show (PyData.canLay0 (pdG j (k j) f) && PyData.canLayAll0 (pds k (j + 1) r)) = true
    rw [pds_lay k (j + 1) r, Bool.and_true]
    cases f with
    | u => exact ok_unset
    | v => rfl
    | t => show (PyData.canLay0 (.str (S "task")) && (PyData.canLay0 (.int (Int.ofNat (70 + j))) && true)) = true; rw [show PyData.canLay0 (.str (S "task")) = true from ok_task]; rfl
    | g => show (PyData.canLay0 (.str (S "guard")) && (PyData.canLay0 (.int (Int.ofNat (80 + j))) && true)) = true; rw [show PyData.canLay0 (.str (S "guard")) = true from ok_guard]; rfl
theorem pds_refl (k : Nat → Int) (j : Nat) (fs : List Fm) : PyData.eqv (.list (pds k j fs)) (.list (pds k j fs)) = true := PySem.SeqAt.eqv_refl _ (pds_lay k j fs)
noncomputable def rsumT (ids ks : List Nat) (hi : Nat) (x : Rs Bool) : Option (Bool × List (Nat × AO) × Bool) := match x with
  | .none => .none
  | some (ob, τ) => match ob with
    | .none => .none
    | some b => some (b, pk ids τ, Nat.ble τ.n hi && allIn (pk ids τ) ks)
theorem rsumT_some {ids ks : List Nat} {hi : Nat} {x : Rs Bool} {b : Bool} {l : List (Nat × AO)} (h : rsumT ids ks hi x = some (b, l, true)) : ∃ τ, x = some (some b, τ) ∧ pk ids τ = l ∧ τ.n ≤ hi ∧ allIn l ks = true := by
  unfold rsumT at h
  split at h
  · cases h
  · rename_i ob τ
    split at h
    · cases h
    · rename_i b'
      have h := Option.some.inj h
      have h1 := (Prod.mk.inj h).1
      have h := (Prod.mk.inj h).2
      have h2 := (Prod.mk.inj h).1
      have h3 := (Prod.mk.inj h).2
      rw [Bool.and_eq_true] at h3
      subst h1 h2
      exact ⟨τ, rfl, rfl, Nat.le_of_ble_eq_true h3.1, h3.2⟩
noncomputable def boE : Expr → List Expr | .BoolOp _ es _ => es | _ => []
noncomputable def boP : Expr → Pos | .BoolOp _ _ p => p | _ => default
noncomputable def tsA : Expr := hdE (boE (ifT (sL 10)))
noncomputable def tsB : Expr := hdE (boE (ifT (sL 10))).tail
theorem st10_eq : sL 10 = .If (.BoolOp .Or [tsA, tsB] (boP (ifT (sL 10)))) (ifB (sL 10)) [] (ifP (sL 10)) := by kernel_rfl
noncomputable def pbid (j : Nat) : List Nat := [160 + 128 * j, 1297 + 64 * j, 1296 + 64 * j, 193 + 128 * j, 113 + 128 * j, 114 + 128 * j, 115 + 128 * j]
noncomputable def pbids : Nat → Nat → List Nat
  | _, 0 => []
  | i, n + 1 => pbid i ++ pbids (i + 1) n
noncomputable def sel10 (n : Nat) : List Nat := [3, 4, 65, 67, 1037, 1038, 1039] ++ pbids 0 n
noncomputable def fx10 (n : Nat) (du : List AV) : List (Nat × AO) := (3, .cell (some (.id 1038))) :: (4, .cell (some (.id 65))) :: (65, .list (idl 160 0 n)) :: (67, .list du) :: (1037, .dict frmD) :: (1038, .inst 666 1037) :: (1039, .dct (nms 0 n)) :: []
noncomputable def lit10 (n : Nat) (m s c : Nat → AV) (k : Nat → Int) (fs : List Fm) : List (Nat × AO) := fx10 n (dvs k 0 fs) ++ ljs m s c k 0 fs
noncomputable def run10 (P : Params) (n : Nat) (a b d e z : AV) (m s c : Nat → AV) (k : Nat → Int) (fs : List Fm) : Option (Bool × List (Nat × AO) × Bool) :=
  rsumT (sel10 n) (ky (lit10 n m s c k fs)) 1650 ((run (tab P) 59).tr fe0 tsA (lc8 a b d e z (S "")) ⟨lit10 n m s c k fs, 1600⟩)
noncomputable def end10 (n : Nat) (m s c : Nat → AV) (k : Nat → Int) (fs : List Fm) : Option (Bool × List (Nat × AO) × Bool) := some (!(PyData.eqv (.list (pds k 0 fs)) (.list (pds k 0 fs))), lit10 n m s c k fs, true)
theorem b10_1 (P : Params) (a b d e z : AV) (m s c : Nat → AV) (k : Nat → Int) : tabN 1 (run10 P 1 a b d e z m s c k) = tabN 1 (end10 1 m s c k) := by kernel_rfl
theorem b10_2 (P : Params) (a b d e z : AV) (m s c : Nat → AV) (k : Nat → Int) : tabN 2 (run10 P 2 a b d e z m s c k) = tabN 2 (end10 2 m s c k) := by kernel_rfl
theorem b10_3 (P : Params) (a b d e z : AV) (m s c : Nat → AV) (k : Nat → Int) : tabN 3 (run10 P 3 a b d e z m s c k) = tabN 3 (end10 3 m s c k) := by kernel_rfl
theorem b10_4 (P : Params) (a b d e z : AV) (m s c : Nat → AV) (k : Nat → Int) : tabN 4 (run10 P 4 a b d e z m s c k) = tabN 4 (end10 4 m s c k) := by kernel_rfl
end Mine
end

section
open PySem PySem.W PyProof.Rows PySem.Calls
set_option Elab.async false
set_option maxRecDepth 100000
set_option maxHeartbeats 0
set_option linter.unusedVariables false
namespace Mine
/- the end where a formal is refused: statement 9 -/
inductive T5 (α : Type) | lf (a : α) | nd (a b c d e : T5 α)
noncomputable def tab5 {α : Type} : Nat → (List (Option Fm) → α) → T5 α
  | 0, F => .lf (F [])
  | n + 1, F => .nd (tab5 n fun r => F (some .u :: r)) (tab5 n fun r => F (some .v :: r)) (tab5 n fun r => F (some .t :: r)) (tab5 n fun r => F (some .g :: r)) (tab5 n fun r => F (none :: r))
theorem tab5_ext {α : Type} : ∀ {n : Nat} {F G : List (Option Fm) → α}, tab5 n F = tab5 n G → ∀ fs : List (Option Fm), fs.length = n → F fs = G fs
  | 0, F, G, h, [], _ => by injection h
  | n + 1, F, G, h, f :: r, hl => by
    have hr : r.length = n := Nat.succ.inj hl
    injection h with h0 h1 h2 h3 h4
    cases f with
    | none => exact tab5_ext h4 r hr
    | some f => cases f with
      | u => exact tab5_ext h0 r hr
      | v => exact tab5_ext h1 r hr
      | t => exact tab5_ext h2 r hr
      | g => exact tab5_ext h3 r hr
noncomputable def dvO (j : Nat) (k : Int) : Option Fm → AV | .none => .none | some f => dvF j k f
noncomputable def dvOs (k : Nat → Int) : Nat → List (Option Fm) → List AV
  | _, [] => []
  | j, f :: r => dvO j (k j) f :: dvOs k (j + 1) r
noncomputable def doO (j : Nat) : Option Fm → List (Nat × AO) | .none => [] | some f => doF j f
noncomputable def doOs : Nat → List (Option Fm) → List (Nat × AO)
  | _, [] => []
  | j, f :: r => doO j f ++ doOs (j + 1) r
noncomputable def sel9 (n z : Nat) : List Nat := 0 :: 3 :: 4 :: 65 :: 67 :: 1037 :: 1038 :: 1039 :: (pbids 0 z ++ dis (z + 1) (n - (z + 1)))
noncomputable def lit9 (n z : Nat) (m s c : Nat → AV) (k : Nat → Int) (fs : List Fm) (gs : List (Option Fm)) : List (Nat × AO) := (0, .ctab tbC) :: (3, .cell (some (.id 1038))) :: (4, .cell (some (.id 65))) :: (65, .list (idl 160 0 n)) :: (67, .list (dvs k 0 fs ++ (.none :: dvOs k (z + 1) gs))) :: (1037, .dict frmD) :: (1038, .inst 666 1037) :: (1039, .dct (nms 0 z)) :: (ljs m s c k 0 fs ++ doOs (z + 1) gs)
noncomputable def r9 (x : Option (Fl × Lc × AS)) : Option (AV × Option AO) := match x with
  | .none => .none
  | some (fl, lc, τ) => match fl with
    | .ret v => some (v, τ.get 0)
    | _ => .none
theorem r9_some {x : Option (Fl × Lc × AS)} {v : AV} {a : Option AO} (h : r9 x = some (v, a)) : ∃ lc τ, x = some (.ret v, lc, τ) ∧ τ.get 0 = a := by
  unfold r9 at h
  split at h
  · cases h
  · rename_i fl lc τ
    split at h
    · have h := Option.some.inj h
      have h1 := (Prod.mk.inj h).1
      have h2 := (Prod.mk.inj h).2
      subst h1
      exact ⟨lc, τ, rfl, h2⟩
    · cases h
noncomputable def run9 (P : Params) (n z : Nat) (a b d e w : AV) (m s c : Nat → AV) (k : Nat → Int) (fs : List Fm) (gs : List (Option Fm)) : Option (AV × Option AO) := r9 ((run (tab P) 59).ex fe0 (sL 9) (lc8 a b d e w (S "constraint_error")) ⟨lit9 n z m s c k fs gs, 1600⟩)
noncomputable def end9 (k : Nat → Int) (fs : List Fm) (gs : List (Option Fm)) : Option (AV × Option AO) := some (.bool (PyData.eqv (.list (pds k 0 fs)) (.list (pds k 0 fs))), some (.ctab tbC))
/- the last statement -/
noncomputable def ovF (j : Nat) (cl : Cl) (k : Int) : Fm → AV | .u => .glob 194 | .v => .num cl k | .t => .id (114 + 128 * j) | .g => .id (115 + 128 * j)
noncomputable def lk12 (j : Nat) (p s : AV) (cl : Cl) (k : Int) (f : Fm) : List (Nat × AO) := (129 + 128 * j, .inst 212 (128 + 128 * j)) :: (128 + 128 * j, .dict (varD j (ovF j cl k f))) :: (176 + 128 * j, .tup [ovF j cl k f, p, s]) :: voF j f
noncomputable def lks (p s : Nat → AV) (cl : Nat → Cl) (k : Nat → Int) : Nat → List Fm → List (Nat × AO)
  | _, [] => []
  | j, f :: r => lk12 j (p j) (s j) (cl j) (k j) f ++ lks p s cl k (j + 1) r
noncomputable def vbid (j : Nat) : List Nat := [129 + 128 * j, 128 + 128 * j, 176 + 128 * j, 113 + 128 * j, 114 + 128 * j, 115 + 128 * j]
noncomputable def vbids : Nat → Nat → List Nat
  | _, 0 => []
  | i, n + 1 => vbid i ++ vbids (i + 1) n
noncomputable def sel12 (n : Nat) : List Nat := 0 :: 1 :: 66 :: 68 :: vbids 0 n
noncomputable def lit12 (n : Nat) (p s : Nat → AV) (cl : Nat → Cl) (k : Nat → Int) (fs : List Fm) : List (Nat × AO) := (0, .ctab tbC) :: (1, .cell (some (.id 66))) :: (66, .list (idl 176 0 n)) :: (68, .list (idl 129 0 n)) :: lks p s cl k 0 fs
noncomputable def run12' (P : Params) (n : Nat) (a b d e w : AV) (p s : Nat → AV) (cl : Nat → Cl) (k : Nat → Int) (fs : List Fm) : Option (AV × Option AO) := r9 ((run (tab P) 59).ex fe0 (sL 12) (lc8 a b d e w (S "")) ⟨lit12 n p s cl k fs, 1900⟩)
noncomputable def end12 (k : Nat → Int) (fs : List Fm) : Option (AV × Option AO) := some (.bool (PyData.eqv (.list (pds k 0 fs)) (.list (pds k 0 fs))), some (.ctab tbC))
/- statement 10, second part -/
noncomputable def acO (j : Nat) (v s : AV) (p : Bool) : List (Nat × AO) := [(176 + 128 * j, .tup [v, cond p (.id (144 + 128 * j)) .none, s])]
noncomputable def acs (v s : Nat → AV) : Nat → List Bool → List (Nat × AO)
  | _, [] => []
  | j, p :: r => acO j (v j) (s j) p ++ acs v s (j + 1) r
noncomputable def bkB : Nat → List Bool → List AV
  | _, [] => []
  | j, p :: r => cond p (.id (1312 + 64 * j) :: bkB (j + 1) r) (bkB (j + 1) r)
noncomputable def abids : Nat → Nat → List Nat
  | _, 0 => []
  | i, n + 1 => (176 + 128 * i) :: abids (i + 1) n
noncomputable def tab2 {α : Type} : Nat → (List Bool → α) → Tr α
  | 0, F => .lf (F [])
  | n + 1, F => .nd (tab2 n fun r => F (true :: r)) (tab2 n fun r => F (false :: r)) (.lf (F [])) (.lf (F []))
theorem tab2_ext {α : Type} : ∀ {n : Nat} {F G : List Bool → α}, tab2 n F = tab2 n G → ∀ fs : List Bool, fs.length = n → F fs = G fs
  | 0, F, G, h, [], _ => by injection h
  | n + 1, F, G, h, f :: r, hl => by
    have hr : r.length = n := Nat.succ.inj hl
    injection h with h0 h1
    cases f with
    | true => exact tab2_ext h0 r hr
    | false => exact tab2_ext h1 r hr
noncomputable def selT (n : Nat) : List Nat := 1 :: 2 :: 66 :: 1041 :: abids 0 n
noncomputable def litT (n : Nat) (v s : Nat → AV) (ps : List Bool) : List (Nat × AO) := (1, .cell (some (.id 66))) :: (2, .cell (some (.id 1041))) :: (66, .list (idl 176 0 n)) :: (1041, .list (bkB 0 ps)) :: acs v s 0 ps
noncomputable def runT' (P : Params) (n : Nat) (a b d e w : AV) (v s : Nat → AV) (ps : List Bool) : Option (Bool × List (Nat × AO) × Bool) := cond (Nat.beq ps.length n) (rsumT (selT n) (ky (litT n v s ps)) 1700 ((run (tab P) 59).tr fe0 tsB (lc8 a b d e w (S "")) ⟨litT n v s ps, 1650⟩)) .none
noncomputable def endT (n : Nat) (v s : Nat → AV) (ps : List Bool) : Option (Bool × List (Nat × AO) × Bool) := cond (Nat.beq ps.length n) (some (false, litT n v s ps, true)) .none
theorem bT_1 (P : Params) (a b d e w : AV) (v s : Nat → AV) : tab2 1 (runT' P 1 a b d e w v s) = tab2 1 (endT 1 v s) := by kernel_rfl
theorem bT_2 (P : Params) (a b d e w : AV) (v s : Nat → AV) : tab2 2 (runT' P 2 a b d e w v s) = tab2 2 (endT 2 v s) := by kernel_rfl
theorem bT_3 (P : Params) (a b d e w : AV) (v s : Nat → AV) : tab2 3 (runT' P 3 a b d e w v s) = tab2 3 (endT 3 v s) := by kernel_rfl
theorem bT_4 (P : Params) (a b d e w : AV) (v s : Nat → AV) : tab2 4 (runT' P 4 a b d e w v s) = tab2 4 (endT 4 v s) := by kernel_rfl
theorem b9_10 (P : Params) (a b d e w : AV) (m s c : Nat → AV) (k : Nat → Int) : tabN 0 (fun fs => tab5 0 (run9 P 1 0 a b d e w m s c k fs)) = tabN 0 (fun fs => tab5 0 (end9 k fs)) := by kernel_rfl
theorem b9_20 (P : Params) (a b d e w : AV) (m s c : Nat → AV) (k : Nat → Int) : tabN 0 (fun fs => tab5 1 (run9 P 2 0 a b d e w m s c k fs)) = tabN 0 (fun fs => tab5 1 (end9 k fs)) := by kernel_rfl
theorem b9_21 (P : Params) (a b d e w : AV) (m s c : Nat → AV) (k : Nat → Int) : tabN 1 (fun fs => tab5 0 (run9 P 2 1 a b d e w m s c k fs)) = tabN 1 (fun fs => tab5 0 (end9 k fs)) := by kernel_rfl
theorem b9_30 (P : Params) (a b d e w : AV) (m s c : Nat → AV) (k : Nat → Int) : tabN 0 (fun fs => tab5 2 (run9 P 3 0 a b d e w m s c k fs)) = tabN 0 (fun fs => tab5 2 (end9 k fs)) := by kernel_rfl
theorem b9_31 (P : Params) (a b d e w : AV) (m s c : Nat → AV) (k : Nat → Int) : tabN 1 (fun fs => tab5 1 (run9 P 3 1 a b d e w m s c k fs)) = tabN 1 (fun fs => tab5 1 (end9 k fs)) := by kernel_rfl
theorem b9_32 (P : Params) (a b d e w : AV) (m s c : Nat → AV) (k : Nat → Int) : tabN 2 (fun fs => tab5 0 (run9 P 3 2 a b d e w m s c k fs)) = tabN 2 (fun fs => tab5 0 (end9 k fs)) := by kernel_rfl
theorem b9_40 (P : Params) (a b d e w : AV) (m s c : Nat → AV) (k : Nat → Int) : tabN 0 (fun fs => tab5 3 (run9 P 4 0 a b d e w m s c k fs)) = tabN 0 (fun fs => tab5 3 (end9 k fs)) := by kernel_rfl
theorem b9_41 (P : Params) (a b d e w : AV) (m s c : Nat → AV) (k : Nat → Int) : tabN 1 (fun fs => tab5 2 (run9 P 4 1 a b d e w m s c k fs)) = tabN 1 (fun fs => tab5 2 (end9 k fs)) := by kernel_rfl
theorem b9_42 (P : Params) (a b d e w : AV) (m s c : Nat → AV) (k : Nat → Int) : tabN 2 (fun fs => tab5 1 (run9 P 4 2 a b d e w m s c k fs)) = tabN 2 (fun fs => tab5 1 (end9 k fs)) := by kernel_rfl
theorem b9_43 (P : Params) (a b d e w : AV) (m s c : Nat → AV) (k : Nat → Int) : tabN 3 (fun fs => tab5 0 (run9 P 4 3 a b d e w m s c k fs)) = tabN 3 (fun fs => tab5 0 (end9 k fs)) := by kernel_rfl
theorem b12_1 (P : Params) (a b d e w : AV) (p s : Nat → AV) (cl : Nat → Cl) (k : Nat → Int) : tabN 1 (run12' P 1 a b d e w p s cl k) = tabN 1 (end12 k) := by kernel_rfl
theorem b12_2 (P : Params) (a b d e w : AV) (p s : Nat → AV) (cl : Nat → Cl) (k : Nat → Int) : tabN 2 (run12' P 2 a b d e w p s cl k) = tabN 2 (end12 k) := by kernel_rfl
theorem b12_3 (P : Params) (a b d e w : AV) (p s : Nat → AV) (cl : Nat → Cl) (k : Nat → Int) : tabN 3 (run12' P 3 a b d e w p s cl k) = tabN 3 (end12 k) := by kernel_rfl
theorem b12_4 (P : Params) (a b d e w : AV) (p s : Nat → AV) (cl : Nat → Cl) (k : Nat → Int) : tabN 4 (run12' P 4 a b d e w p s cl k) = tabN 4 (end12 k) := by kernel_rfl
end Mine
end

section
open PySem PySem.W PyProof.Rows PySem.Calls
set_option Elab.async false
set_option maxRecDepth 100000
set_option maxHeartbeats 0
set_option linter.unusedVariables false
namespace Mine
section
variable {prog : Program} {w : World} {sc : List Int} {h₀ : Heap}
variable {A : Around} {cn : Str} {a : Addr} {ccd : Value} {cl : List (Str × Addr)} {outer : List Env} {L : Addr} {E : Value → Shared → Prop} {Q : Flow → Shared → Prop}
variable {s₀ s : Shared} {σ τ : AS} {lc lc' : Lc} {D D' : List Nat} {G G' : GF} {n n' n1 N : Nat} {l l' : List (Nat × AO)} {r : Rc} {sel sel' : List Nat}
/-- a condition, on a part of the objects that it leaves as it was -/
theorem LS.test {e : Expr} {b : Bool} {Q' : Bool → Shared → Prop} (H : Snd prog w sc h₀ r N) (ax : AX A (envX cn fe0.sc L a ccd cl) outer L [] N) (X : LS prog w sc h₀ L cl s₀ (mkS D G n) lc s) (hlt : ltN n D = true) (hs : subN sel D = true) (hp : pkG sel G = l)
    (hx : rsumT sel (ky l) n1 (r.tr fe0 e lc ⟨l, n⟩) = some (b, l, true)) (h1 : n ≤ n1) (k : ∀ s', LS prog w sc h₀ L cl s₀ (mkS D G n1) lc s' → Q' b s') :
    wpAny (model prog w) A (PySem.isTrue e (envX cn fe0.sc L a ccd cl) (eval e (envX cn fe0.sc L a ccd cl))) Q' E s := by
  have R0 : RepOn D (mkS D G n) G := mkS_rep hlt
  have hk : keysLt n (pkG D G) = true := keysLt_pkG hlt
  subst hp
  obtain ⟨τ, g1, g2, g3, g4⟩ := rsumT_some hx
  have e0 : pk sel (mkS D G n) = pkG sel G := pk_rep R0 hs
  obtain ⟨m, ρ, news, S, lr, c, z, e1, M⟩ := X
  have sub : ∀ i a, (⟨pk sel (mkS D G n), n⟩ : AS).get i = some a → (mkS D G n).get i = some a := fun i a h => pk_get (get_fnd h)
  obtain ⟨Sp, Np⟩ := S.sub (τ := ⟨pk sel (mkS D G n), n⟩) (Nat.le_refl _) sub
  have g1' : r.tr fe0 e lc ⟨pk sel (mkS D G n), n⟩ = some (some b, τ) := by rw [e0]; exact g1
  refine H.tr _ _ _ _ _ g1' _ _ _ _ _ _ _ _ _ _ _ _ _ _ _ ax ⟨Sp, lr, c⟩ (fun ρ' news' s' S' N' M' v hv => ?_) (.inl rfl)
  have hv : b = v := hv
  subst hv
  have hc : (Nat.ble τ.n ((mkS D G n).n + (n1 - n)) && allIn (pk (sel ++ []) τ) (ky (pk sel (mkS D G n))) && keysLt (mkS D G n).n (mkS D G n).o) = true := by
    rw [e0, List.append_nil, g2, g4, show keysLt (mkS D G n).n (mkS D G n).o = true from hk, show Nat.ble τ.n ((mkS D G n).n + (n1 - n)) = true from Nat.ble_eq_true_of_le (by show τ.n ≤ n + (n1 - n); omega)]; rfl
  obtain ⟨S2, N2, c1, _⟩ := S.part (sel := sel) (new := []) hc S' N'
  have en : (mkS D G n).n + (n1 - n) = n1 := by show n + (n1 - n) = n1; omega
  rw [en, List.append_nil] at S2 N2
  obtain ⟨R, hk'⟩ := rep_merge (n' := n1) (ids := sel) (τ := τ) R0 hk h1 g3
  have X' : LS prog w sc h₀ L cl s₀ ⟨pk sel τ ++ (mkS D G n).o, n1⟩ lc s' := ⟨m, ρ', news', S2, lr.mono N2.le N2.ext, c.mono N2.le N2.ext, Nat.lt_of_lt_of_le z N2.le, by rw [N2.ext 0 z]; exact e1, M.trans M'⟩
  refine k s' (X'.toG (R.ext fun i => ?_) (Nat.le_refl _))
  rw [g2]
  exact ovI_same i
/-- if a or b: neither is so -/
theorem LS.or10 {rest : List Stmt} (H : Snd prog w sc h₀ r N) (ax : AX A (envX cn fe0.sc L a ccd cl) outer L [] N) (X : LS prog w sc h₀ L cl s₀ (mkS D G n) lc s) (hlt : ltN n D = true) (hlt1 : ltN n1 D = true) (hs : subN sel D = true) (hp : pkG sel G = l)
    (hx : rsumT sel (ky l) n1 (r.tr fe0 tsA lc ⟨l, n⟩) = some (false, l, true)) (h1 : n ≤ n1) (hs' : subN sel' D = true) (hp' : pkG sel' G = l') (hx' : rsumT sel' (ky l') n' (r.tr fe0 tsB lc ⟨l', n1⟩) = some (false, l', true)) (h2 : n1 ≤ n')
    (k : ∀ s', LS prog w sc h₀ L cl s₀ (mkS D G n') lc s' → wpAny (model prog w) A (execs rest (envX cn fe0.sc L a ccd cl)) Q E s') :
    wpAny (model prog w) A (execs (sL 10 :: rest) (envX cn fe0.sc L a ccd cl)) Q E s := by
  rw [st10_eq]
  refine wpAny_execs_cons (wpAny_If (isTrue_or (LS.test H ax X hlt hs hp hx h1 fun s1 X1 => ?_)))
  show wpAny (model prog w) A (PySem.isTrue (.BoolOp .Or [tsB] _) (envX cn fe0.sc L a ccd cl) _) _ E s1
  refine isTrue_or (LS.test H ax X1 hlt1 hs' hp' hx' h2 fun s2 X2 => ?_)
  show wpAny (model prog w) A (PySem.isTrue (.BoolOp .Or [] _) (envX cn fe0.sc L a ccd cl) _) _ E s2
  exact isTrue_or_nil (wpAny_execs_nil (k s2 X2))
/-- a statement that returns True -/
theorem LS.retp {st : Stmt} {rest : List Stmt} {tb : List (Nat × Nat)} (H : SEx prog w sc h₀ r N) (ax : AX A (envX cn fe0.sc L a ccd cl) outer L [] N) (X : LS prog w sc h₀ L cl s₀ (mkS D G n) lc s) (hlt : ltN n D = true) (hs : subN sel D = true) (hp : pkG sel G = l)
    (hx : r9 (r.ex fe0 st lc ⟨l, n⟩) = some (.bool true, some (.ctab tb)))
    (k : ∀ σ' ρ' news' m' s' l, St prog w sc h₀ [] L m' σ' ρ' news' s' → σ'.get 0 = some (.ctab l) → ρ' 0 = 885 → Sm s₀ s' → Q (.ret (.bool true)) s') :
    wpAny (model prog w) A (execs (st :: rest) (envX cn fe0.sc L a ccd cl)) Q E s := by
  obtain ⟨lc', τ, h1, h2⟩ := r9_some hx
  have X1 : LS prog w sc h₀ L cl s₀ (mkS sel G n) lc s := X.toG ((mkS_rep hlt).sub hs) (Nat.le_refl _)
  refine LS.ret (lc' := lc') (τ := τ) H ax X1 ?_ h2 k
  rw [exs_2]
  rw [show mkS sel G n = ⟨l, n⟩ by unfold mkS; rw [hp], h1]
end
/- what the kinds come to -/
noncomputable def frV (v : Va) : Fm := match v with | .u => .u | .lo => .u | .inn => .v | .hi => .u
noncomputable def frm : Kd → Fm
  | .num _ m v => match m with
    | .i => frV v
    | .o => .u
    | .x => frV v
  | .tsk _ _ => .t
  | .grd _ => .g
noncomputable def frmO (x : Kd) : Option Fm := cond (bad x) .none (some (frm x))
noncomputable def frms (κ : Nat → Kd) : Nat → Nat → List Fm
  | _, 0 => []
  | j, n + 1 => frm (κ j) :: frms κ (j + 1) n
noncomputable def gms (κ : Nat → Kd) : Nat → Nat → List (Option Fm)
  | _, 0 => []
  | j, n + 1 => frmO (κ j) :: gms κ (j + 1) n
noncomputable def psL (κ : Nat → Kd) : Nat → Nat → List Bool
  | _, 0 => []
  | j, n + 1 => hasP (κ j) :: psL κ (j + 1) n
theorem frms_len (κ : Nat → Kd) : ∀ j n, (frms κ j n).length = n
  | _, 0 => rfl
  | j, n + 1 => congrArg (· + 1) (frms_len κ (j + 1) n)
theorem gms_len (κ : Nat → Kd) : ∀ j n, (gms κ j n).length = n
  | _, 0 => rfl
  | j, n + 1 => congrArg (· + 1) (gms_len κ (j + 1) n)
theorem psL_len (κ : Nat → Kd) : ∀ j n, (psL κ j n).length = n
  | _, 0 => rfl
  | j, n + 1 => congrArg (· + 1) (psL_len κ (j + 1) n)
noncomputable def ofrV (v : Va) : Fm := match v with | .u => .u | .lo => .v | .inn => .v | .hi => .v
noncomputable def ofrm : Kd → Fm
  | .num _ _ v => ofrV v
  | .tsk _ _ => .t
  | .grd _ => .g
noncomputable def ofrms (κ : Nat → Kd) : Nat → Nat → List Fm
  | _, 0 => []
  | j, n + 1 => ofrm (κ j) :: ofrms κ (j + 1) n
theorem ofrms_len (κ : Nat → Kd) : ∀ j n, (ofrms κ j n).length = n
  | _, 0 => rfl
  | j, n + 1 => congrArg (· + 1) (ofrms_len κ (j + 1) n)
noncomputable def clO : Kd → Cl
  | .num _ _ v => match v with | .u => .inn | .lo => .lo | .inn => .inn | .hi => .hi
  | .tsk _ _ => .inn
  | .grd _ => .inn
noncomputable def mA (κ : Nat → Kd) (j : Nat) : AV := .str (moS (mdOf (κ j)))
noncomputable def sA (κ : Nat → Kd) (j : Nat) : AV := suA (κ j)
noncomputable def cA (κ : Nat → Kd) (j : Nat) : AV := csu j (κ j)
noncomputable def k2 (k : Nat → Int) (j : Nat) : Int := k j - 2
noncomputable def pA (κ : Nat → Kd) (j : Nat) : AV := plM j (mdOf (κ j))
noncomputable def sA' (κ : Nat → Kd) (j : Nat) : AV := kpM (κ j)
noncomputable def clA (κ : Nat → Kd) (j : Nat) : Cl := clO (κ j)
noncomputable def vA (κ : Nat → Kd) (k : Nat → Int) (j : Nat) : AV := valA j (κ j) (k j)
noncomputable def blkC (j : Nat) (x : Kd) (k : Int) : GF := fun id => cond (Nat.blt id 1280) (ovL (blkA j x k) (fun _ => .none) id) (ovL (celO j x k) (fun _ => .none) id)
theorem dvF_du (j : Nat) (x : Kd) (k : Int) (h : bad x = false) : duA j x k = dvF j (k - 2) (frm x) := by
  cases x with
  | num hh m v => cases m <;> cases v <;> first | rfl | cases h
  | tsk hh m => rfl
  | grd m => rfl
theorem dvO_du (j : Nat) (x : Kd) (k : Int) : duA j x k = dvO j (k - 2) (frmO x) := by
  cases x with
  | num hh m v => cases m <;> cases v <;> rfl
  | tsk hh m => rfl
  | grd m => rfl
theorem du_bad (j : Nat) (x : Kd) (k : Int) (h : bad x = true) : duA j x k = .none := by
  cases x with
  | num hh m v => cases m <;> cases v <;> first | rfl | cases h
  | tsk hh m => cases h
  | grd m => cases h
theorem ljx0 (x : Kd) (k : Int) : cond (bad x) [] (pkG (pbid 0) (blkC 0 x k)) = cond (bad x) [] (lj 0 (.str (moS (mdOf x))) (suA x) (csu 0 x) (k - 2) (frm x)) := tab33_ext (f := fun x => cond (bad x) [] (pkG (pbid 0) (blkC 0 x k))) (g := fun x => cond (bad x) [] (lj 0 (.str (moS (mdOf x))) (suA x) (csu 0 x) (k - 2) (frm x))) (by kernel_rfl) x
theorem dox0 (x : Kd) (k : Int) : pkG [193 + 128 * 0] (blkC 0 x k) = doO 0 (frmO x) := tab33_ext (f := fun x => pkG [193 + 128 * 0] (blkC 0 x k)) (g := fun x => doO 0 (frmO x)) (by kernel_rfl) x
theorem lkx0 (x : Kd) (k : Int) : pkG (vbid 0) (blkC 0 x k) = lk12 0 (plM 0 (mdOf x)) (kpM x) (clO x) (k - 2) (ofrm x) := tab33_ext (f := fun x => pkG (vbid 0) (blkC 0 x k)) (g := fun x => lk12 0 (plM 0 (mdOf x)) (kpM x) (clO x) (k - 2) (ofrm x)) (by kernel_rfl) x
theorem acx0 (x : Kd) (k : Int) : pkG [176 + 128 * 0] (blkC 0 x k) = acO 0 (valA 0 x k) (kpM x) (hasP x) := tab33_ext (f := fun x => pkG [176 + 128 * 0] (blkC 0 x k)) (g := fun x => acO 0 (valA 0 x k) (kpM x) (hasP x)) (by kernel_rfl) x
theorem ljx1 (x : Kd) (k : Int) : cond (bad x) [] (pkG (pbid 1) (blkC 1 x k)) = cond (bad x) [] (lj 1 (.str (moS (mdOf x))) (suA x) (csu 1 x) (k - 2) (frm x)) := tab33_ext (f := fun x => cond (bad x) [] (pkG (pbid 1) (blkC 1 x k))) (g := fun x => cond (bad x) [] (lj 1 (.str (moS (mdOf x))) (suA x) (csu 1 x) (k - 2) (frm x))) (by kernel_rfl) x
theorem dox1 (x : Kd) (k : Int) : pkG [193 + 128 * 1] (blkC 1 x k) = doO 1 (frmO x) := tab33_ext (f := fun x => pkG [193 + 128 * 1] (blkC 1 x k)) (g := fun x => doO 1 (frmO x)) (by kernel_rfl) x
theorem lkx1 (x : Kd) (k : Int) : pkG (vbid 1) (blkC 1 x k) = lk12 1 (plM 1 (mdOf x)) (kpM x) (clO x) (k - 2) (ofrm x) := tab33_ext (f := fun x => pkG (vbid 1) (blkC 1 x k)) (g := fun x => lk12 1 (plM 1 (mdOf x)) (kpM x) (clO x) (k - 2) (ofrm x)) (by kernel_rfl) x
theorem acx1 (x : Kd) (k : Int) : pkG [176 + 128 * 1] (blkC 1 x k) = acO 1 (valA 1 x k) (kpM x) (hasP x) := tab33_ext (f := fun x => pkG [176 + 128 * 1] (blkC 1 x k)) (g := fun x => acO 1 (valA 1 x k) (kpM x) (hasP x)) (by kernel_rfl) x
theorem ljx2 (x : Kd) (k : Int) : cond (bad x) [] (pkG (pbid 2) (blkC 2 x k)) = cond (bad x) [] (lj 2 (.str (moS (mdOf x))) (suA x) (csu 2 x) (k - 2) (frm x)) := tab33_ext (f := fun x => cond (bad x) [] (pkG (pbid 2) (blkC 2 x k))) (g := fun x => cond (bad x) [] (lj 2 (.str (moS (mdOf x))) (suA x) (csu 2 x) (k - 2) (frm x))) (by kernel_rfl) x
theorem dox2 (x : Kd) (k : Int) : pkG [193 + 128 * 2] (blkC 2 x k) = doO 2 (frmO x) := tab33_ext (f := fun x => pkG [193 + 128 * 2] (blkC 2 x k)) (g := fun x => doO 2 (frmO x)) (by kernel_rfl) x
theorem lkx2 (x : Kd) (k : Int) : pkG (vbid 2) (blkC 2 x k) = lk12 2 (plM 2 (mdOf x)) (kpM x) (clO x) (k - 2) (ofrm x) := tab33_ext (f := fun x => pkG (vbid 2) (blkC 2 x k)) (g := fun x => lk12 2 (plM 2 (mdOf x)) (kpM x) (clO x) (k - 2) (ofrm x)) (by kernel_rfl) x
theorem acx2 (x : Kd) (k : Int) : pkG [176 + 128 * 2] (blkC 2 x k) = acO 2 (valA 2 x k) (kpM x) (hasP x) := tab33_ext (f := fun x => pkG [176 + 128 * 2] (blkC 2 x k)) (g := fun x => acO 2 (valA 2 x k) (kpM x) (hasP x)) (by kernel_rfl) x
theorem ljx3 (x : Kd) (k : Int) : cond (bad x) [] (pkG (pbid 3) (blkC 3 x k)) = cond (bad x) [] (lj 3 (.str (moS (mdOf x))) (suA x) (csu 3 x) (k - 2) (frm x)) := tab33_ext (f := fun x => cond (bad x) [] (pkG (pbid 3) (blkC 3 x k))) (g := fun x => cond (bad x) [] (lj 3 (.str (moS (mdOf x))) (suA x) (csu 3 x) (k - 2) (frm x))) (by kernel_rfl) x
theorem dox3 (x : Kd) (k : Int) : pkG [193 + 128 * 3] (blkC 3 x k) = doO 3 (frmO x) := tab33_ext (f := fun x => pkG [193 + 128 * 3] (blkC 3 x k)) (g := fun x => doO 3 (frmO x)) (by kernel_rfl) x
theorem lkx3 (x : Kd) (k : Int) : pkG (vbid 3) (blkC 3 x k) = lk12 3 (plM 3 (mdOf x)) (kpM x) (clO x) (k - 2) (ofrm x) := tab33_ext (f := fun x => pkG (vbid 3) (blkC 3 x k)) (g := fun x => lk12 3 (plM 3 (mdOf x)) (kpM x) (clO x) (k - 2) (ofrm x)) (by kernel_rfl) x
theorem acx3 (x : Kd) (k : Int) : pkG [176 + 128 * 3] (blkC 3 x k) = acO 3 (valA 3 x k) (kpM x) (hasP x) := tab33_ext (f := fun x => pkG [176 + 128 * 3] (blkC 3 x k)) (g := fun x => acO 3 (valA 3 x k) (kpM x) (hasP x)) (by kernel_rfl) x
theorem ljx (j : Nat) (hj : j < 4) (x : Kd) (k : Int) (h : bad x = false) : pkG (pbid j) (blkC j x k) = lj j (.str (moS (mdOf x))) (suA x) (csu j x) (k - 2) (frm x) := by
  have e : cond (bad x) [] (pkG (pbid j) (blkC j x k)) = cond (bad x) [] (lj j (.str (moS (mdOf x))) (suA x) (csu j x) (k - 2) (frm x)) := by
    match j, hj with
    | 0, _ => exact ljx0 x k
    | 1, _ => exact ljx1 x k
    | 2, _ => exact ljx2 x k
    | 3, _ => exact ljx3 x k
  rw [h] at e
  exact e
theorem dox (j : Nat) (hj : j < 4) (x : Kd) (k : Int) : pkG [193 + 128 * j] (blkC j x k) = doO j (frmO x) := by
  match j, hj with
  | 0, _ => exact dox0 x k
  | 1, _ => exact dox1 x k
  | 2, _ => exact dox2 x k
  | 3, _ => exact dox3 x k
theorem lkx (j : Nat) (hj : j < 4) (x : Kd) (k : Int) : pkG (vbid j) (blkC j x k) = lk12 j (plM j (mdOf x)) (kpM x) (clO x) (k - 2) (ofrm x) := by
  match j, hj with
  | 0, _ => exact lkx0 x k
  | 1, _ => exact lkx1 x k
  | 2, _ => exact lkx2 x k
  | 3, _ => exact lkx3 x k
theorem acx (j : Nat) (hj : j < 4) (x : Kd) (k : Int) : pkG [176 + 128 * j] (blkC j x k) = acO j (valA j x k) (kpM x) (hasP x) := by
  match j, hj with
  | 0, _ => exact acx0 x k
  | 1, _ => exact acx1 x k
  | 2, _ => exact acx2 x k
  | 3, _ => exact acx3 x k
/- put together -/
theorem ljs_pk {G : GF} {κ : Nat → Kd} {k : Nat → Int} : ∀ n i, (∀ j, i ≤ j → j < i + n → pkG (pbid j) G = lj j (mA κ j) (sA κ j) (cA κ j) (k2 k j) (frm (κ j))) → pkG (pbids i n) G = ljs (mA κ) (sA κ) (cA κ) (k2 k) i (frms κ i n)
  | 0, _, _ => rfl
  | n + 1, i, h => by
    show pkG (pbid i ++ pbids (i + 1) n) G = lj i (mA κ i) (sA κ i) (cA κ i) (k2 k i) (frm (κ i)) ++ ljs (mA κ) (sA κ) (cA κ) (k2 k) (i + 1) (frms κ (i + 1) n)
    rw [pkG_app, h i (Nat.le_refl _) (by omega), ljs_pk n (i + 1) fun j h1 h2 => h j (by omega) (by omega)]
theorem dos_pk {G : GF} {κ : Nat → Kd} : ∀ n i, (∀ j, i ≤ j → j < i + n → pkG [193 + 128 * j] G = doO j (frmO (κ j))) → pkG (dis i n) G = doOs i (gms κ i n)
  | 0, _, _ => rfl
  | n + 1, i, h => by
    show pkG ([193 + 128 * i] ++ dis (i + 1) n) G = doO i (frmO (κ i)) ++ doOs (i + 1) (gms κ (i + 1) n)
    rw [pkG_app, h i (Nat.le_refl _) (by omega), dos_pk n (i + 1) fun j h1 h2 => h j (by omega) (by omega)]
theorem lks_pk {G : GF} {κ : Nat → Kd} {k : Nat → Int} : ∀ n i, (∀ j, i ≤ j → j < i + n → pkG (vbid j) G = lk12 j (pA κ j) (sA' κ j) (clA κ j) (k2 k j) (ofrm (κ j))) → pkG (vbids i n) G = lks (pA κ) (sA' κ) (clA κ) (k2 k) i (ofrms κ i n)
  | 0, _, _ => rfl
  | n + 1, i, h => by
    show pkG (vbid i ++ vbids (i + 1) n) G = lk12 i (pA κ i) (sA' κ i) (clA κ i) (k2 k i) (ofrm (κ i)) ++ lks (pA κ) (sA' κ) (clA κ) (k2 k) (i + 1) (ofrms κ (i + 1) n)
    rw [pkG_app, h i (Nat.le_refl _) (by omega), lks_pk n (i + 1) fun j h1 h2 => h j (by omega) (by omega)]
theorem acs_pk {G : GF} {κ : Nat → Kd} {k : Nat → Int} : ∀ n i, (∀ j, i ≤ j → j < i + n → pkG [176 + 128 * j] G = acO j (vA κ k j) (sA' κ j) (hasP (κ j))) → pkG (abids i n) G = acs (vA κ k) (sA' κ) i (psL κ i n)
  | 0, _, _ => rfl
  | n + 1, i, h => by
    show pkG ([176 + 128 * i] ++ abids (i + 1) n) G = acO i (vA κ k i) (sA' κ i) (hasP (κ i)) ++ acs (vA κ k) (sA' κ) (i + 1) (psL κ (i + 1) n)
    rw [pkG_app, h i (Nat.le_refl _) (by omega), acs_pk n (i + 1) fun j h1 h2 => h j (by omega) (by omega)]
theorem duL_dv {κ : Nat → Kd} {k : Nat → Int} {n : Nat} (hn : N4 n) (hb : ∀ j, j < n → bad (κ j) = false) : duL κ k n = dvs (k2 k) 0 (frms κ 0 n) := by
  rcases hn with rfl | rfl | rfl | rfl
  · show [duA 0 (κ 0) (k 0)] = [dvF 0 (k 0 - 2) (frm (κ 0))]
    rw [dvF_du 0 _ _ (hb 0 (by decide))]
  · show [duA 0 (κ 0) (k 0), duA 1 (κ 1) (k 1)] = [dvF 0 (k 0 - 2) (frm (κ 0)), dvF 1 (k 1 - 2) (frm (κ 1))]
    rw [dvF_du 0 _ _ (hb 0 (by decide)), dvF_du 1 _ _ (hb 1 (by decide))]
  · show [duA 0 (κ 0) (k 0), duA 1 (κ 1) (k 1), duA 2 (κ 2) (k 2)] = [dvF 0 (k 0 - 2) (frm (κ 0)), dvF 1 (k 1 - 2) (frm (κ 1)), dvF 2 (k 2 - 2) (frm (κ 2))]
    rw [dvF_du 0 _ _ (hb 0 (by decide)), dvF_du 1 _ _ (hb 1 (by decide)), dvF_du 2 _ _ (hb 2 (by decide))]
  · show [duA 0 (κ 0) (k 0), duA 1 (κ 1) (k 1), duA 2 (κ 2) (k 2), duA 3 (κ 3) (k 3)] = [dvF 0 (k 0 - 2) (frm (κ 0)), dvF 1 (k 1 - 2) (frm (κ 1)), dvF 2 (k 2 - 2) (frm (κ 2)), dvF 3 (k 3 - 2) (frm (κ 3))]
    rw [dvF_du 0 _ _ (hb 0 (by decide)), dvF_du 1 _ _ (hb 1 (by decide)), dvF_du 2 _ _ (hb 2 (by decide)), dvF_du 3 _ _ (hb 3 (by decide))]
theorem g3_at {n : Nat} (hn : N4 n) (κ : Nat → Kd) (k : Nat → Int) (j : Nat) (hj : j < n) : mpG (G3 n κ k) (pbid j) = mpG (blkC j (κ j) (k j)) (pbid j) ∧ mpG (G3 n κ k) (vbid j) = mpG (blkC j (κ j) (k j)) (vbid j) ∧ mpG (G3 n κ k) [176 + 128 * j] = mpG (blkC j (κ j) (k j)) [176 + 128 * j] := by
  have h := tabP_ext (f := fun n j => (mpG (G3 n κ k) (pbid j), mpG (G3 n κ k) (vbid j), mpG (G3 n κ k) [176 + 128 * j])) (g := fun n j => (mpG (blkC j (κ j) (k j)) (pbid j), mpG (blkC j (κ j) (k j)) (vbid j), mpG (blkC j (κ j) (k j)) [176 + 128 * j])) (by kernel_rfl) hn hj
  exact ⟨congrArg (·.1) h, congrArg (·.2.1) h, congrArg (·.2.2) h⟩
theorem lit10_eq {n : Nat} (hn : N4 n) (κ : Nat → Kd) (k : Nat → Int) (hb : ∀ j, j < n → bad (κ j) = false) : pkG (sel10 n) (G3 n κ k) = lit10 n (mA κ) (sA κ) (cA κ) (k2 k) (frms κ 0 n) := by
  show pkG ([3, 4, 65, 67, 1037, 1038, 1039] ++ pbids 0 n) (G3 n κ k) = fx10 n (dvs (k2 k) 0 (frms κ 0 n)) ++ ljs (mA κ) (sA κ) (cA κ) (k2 k) 0 (frms κ 0 n)
  rw [pkG_app, ljs_pk (κ := κ) (k := k) n 0 fun j _ hj => by
    have hj : j < n := by omega
    rw [pkG_congr (g3_at hn κ k j hj).1, ljx j (by have := n4_le hn; omega) _ _ (hb j hj)]; rfl, ← duL_dv hn hb]
  rw [show pkG [3, 4, 65, 67, 1037, 1038, 1039] (G3 n κ k) = fx10 n (duL κ k n) by kernel_rfl]
theorem lit12_eq {n : Nat} (hn : N4 n) (κ : Nat → Kd) (k : Nat → Int) : pkG (sel12 n) (G3 n κ k) = lit12 n (pA κ) (sA' κ) (clA κ) (k2 k) (ofrms κ 0 n) := by
  show pkG ([0, 1, 66, 68] ++ vbids 0 n) (G3 n κ k) = [(0, .ctab tbC), (1, .cell (some (.id 66))), (66, .list (idl 176 0 n)), (68, .list (idl 129 0 n))] ++ lks (pA κ) (sA' κ) (clA κ) (k2 k) 0 (ofrms κ 0 n)
  rw [pkG_app, lks_pk (κ := κ) (k := k) n 0 fun j _ hj => by
    have hj : j < n := by omega
    rw [pkG_congr (g3_at hn κ k j hj).2.1, lkx j (by have := n4_le hn; omega)]; rfl]
  rw [show pkG [0, 1, 66, 68] (G3 n κ k) = [(0, .ctab tbC), (1, .cell (some (.id 66))), (66, .list (idl 176 0 n)), (68, .list (idl 129 0 n))] by kernel_rfl]
theorem bks_bkB {n : Nat} (hn : N4 n) (κ : Nat → Kd) : bks κ n = bkB 0 (psL κ 0 n) := by
  rcases hn with rfl | rfl | rfl | rfl
  · show bks κ 1 = bkB 0 [hasP (κ 0)]
    rw [bks_2, bks_1]
    cases hasP (κ 0) <;> rfl
  · show bks κ 2 = bkB 0 [hasP (κ 0), hasP (κ 1)]
    rw [bks_2, bks_2, bks_1]
    cases hasP (κ 0) <;> cases hasP (κ 1) <;> rfl
  · show bks κ 3 = bkB 0 [hasP (κ 0), hasP (κ 1), hasP (κ 2)]
    rw [bks_2, bks_2, bks_2, bks_1]
    cases hasP (κ 0) <;> cases hasP (κ 1) <;> cases hasP (κ 2) <;> rfl
  · show bks κ 4 = bkB 0 [hasP (κ 0), hasP (κ 1), hasP (κ 2), hasP (κ 3)]
    rw [bks_2, bks_2, bks_2, bks_2, bks_1]
    cases hasP (κ 0) <;> cases hasP (κ 1) <;> cases hasP (κ 2) <;> cases hasP (κ 3) <;> rfl
theorem litT_eq {n : Nat} (hn : N4 n) (κ : Nat → Kd) (k : Nat → Int) : pkG (selT n) (G3 n κ k) = litT n (vA κ k) (sA' κ) (psL κ 0 n) := by
  show pkG ([1, 2, 66, 1041] ++ abids 0 n) (G3 n κ k) = [(1, .cell (some (.id 66))), (2, .cell (some (.id 1041))), (66, .list (idl 176 0 n)), (1041, .list (bkB 0 (psL κ 0 n)))] ++ acs (vA κ k) (sA' κ) 0 (psL κ 0 n)
  rw [pkG_app, acs_pk (κ := κ) (k := k) n 0 fun j _ hj => by
    have hj : j < n := by omega
    rw [pkG_congr (g3_at hn κ k j hj).2.2, acx j (by have := n4_le hn; omega)]; rfl, ← bks_bkB hn κ]
  rw [show pkG [1, 2, 66, 1041] (G3 n κ k) = [(1, .cell (some (.id 66))), (2, .cell (some (.id 1041))), (66, .list (idl 176 0 n)), (1041, .list (bks κ n))] by kernel_rfl]
end Mine
end

section
open PySem PySem.W PyProof.Rows PySem.Calls
set_option Elab.async false
set_option maxRecDepth 100000
set_option maxHeartbeats 0
set_option linter.unusedVariables false
namespace Mine
/- statement 9, where a formal is refused -/
noncomputable def duC (κ : Nat → Kd) (k : Nat → Int) : Nat → Nat → List AV
  | _, 0 => []
  | j, n + 1 => duA j (κ j) (k j) :: duC κ k (j + 1) n
theorem duL_C {κ : Nat → Kd} {k : Nat → Int} {n : Nat} (hn : N4 n) : duL κ k n = duC κ k 0 n := by
  rcases hn with rfl | rfl | rfl | rfl <;> rfl
theorem duC_app {κ : Nat → Kd} {k : Nat → Int} : ∀ a b j, duC κ k j (a + b) = duC κ k j a ++ duC κ k (j + a) b
  | 0, b, j => by rw [Nat.zero_add, Nat.add_zero]; rfl
  | a + 1, b, j => by
    rw [show a + 1 + b = (a + b) + 1 by omega, show j + (a + 1) = j + 1 + a by omega]
    show _ :: duC κ k (j + 1) (a + b) = _ :: (duC κ k (j + 1) a ++ _)
    rw [duC_app a b (j + 1)]
theorem duC_dv {κ : Nat → Kd} {k : Nat → Int} : ∀ n j, (∀ i, j ≤ i → i < j + n → bad (κ i) = false) → duC κ k j n = dvs (k2 k) j (frms κ j n)
  | 0, _, _ => rfl
  | n + 1, j, h => by
    show duA j (κ j) (k j) :: duC κ k (j + 1) n = dvF j (k2 k j) (frm (κ j)) :: dvs (k2 k) (j + 1) (frms κ (j + 1) n)
    rw [dvF_du j _ _ (h j (Nat.le_refl _) (by omega)), duC_dv n (j + 1) fun i h1 h2 => h i (by omega) (by omega)]; rfl
theorem duC_dvO {κ : Nat → Kd} {k : Nat → Int} : ∀ n j, duC κ k j n = dvOs (k2 k) j (gms κ j n)
  | 0, _ => rfl
  | n + 1, j => by
    show duA j (κ j) (k j) :: duC κ k (j + 1) n = dvO j (k2 k j) (frmO (κ j)) :: dvOs (k2 k) (j + 1) (gms κ (j + 1) n)
    rw [dvO_du, duC_dvO n (j + 1)]; rfl
theorem n4_of {z j : Nat} (hz : z < 4) (hj : j < z) : N4 z := by
  rcases lt4 hz with rfl | rfl | rfl | rfl
  · exact absurd hj (Nat.not_lt_zero _)
  · exact .inl rfl
  · exact .inr (.inl rfl)
  · exact .inr (.inr (.inl rfl))
theorem gc_at (n : Nat) (κ : Nat → Kd) (k : Nat → Int) (z j : Nat) (hz : z < 4) (hj : j < z) : mpG (GC n κ k z) (pbid j) = mpG (blkC j (κ j) (k j)) (pbid j) :=
  tabP_ext (f := fun z j => mpG (GC n κ k z) (pbid j)) (g := fun z j => mpG (blkC j (κ j) (k j)) (pbid j)) (by kernel_rfl) (n4_of hz hj) hj
theorem gc_du (n : Nat) (κ : Nat → Kd) (k : Nat → Int) (z j : Nat) (hj : j < 4) : mpG (GC n κ k z) [193 + 128 * j] = mpG (blkC j (κ j) (k j)) [193 + 128 * j] := by
  match j, hj with
  | 0, _ => kernel_rfl
  | 1, _ => kernel_rfl
  | 2, _ => kernel_rfl
  | 3, _ => kernel_rfl
theorem lit9_eq {n : Nat} (hn : N4 n) (κ : Nat → Kd) (k : Nat → Int) {z : Nat} (hz : z < n) (hb : ∀ j, j < z → bad (κ j) = false) (hbz : bad (κ z) = true) : pkG (sel9 n z) (GC n κ k z) = lit9 n z (mA κ) (sA κ) (cA κ) (k2 k) (frms κ 0 z) (gms κ (z + 1) (n - (z + 1))) := by
  have h4 := n4_le hn
  show pkG ([0, 3, 4, 65, 67, 1037, 1038, 1039] ++ (pbids 0 z ++ dis (z + 1) (n - (z + 1)))) (GC n κ k z) = [(0, .ctab tbC), (3, .cell (some (.id 1038))), (4, .cell (some (.id 65))), (65, .list (idl 160 0 n)), (67, .list (dvs (k2 k) 0 (frms κ 0 z) ++ (.none :: dvOs (k2 k) (z + 1) (gms κ (z + 1) (n - (z + 1)))))), (1037, .dict frmD), (1038, .inst 666 1037), (1039, .dct (nms 0 z))] ++ (ljs (mA κ) (sA κ) (cA κ) (k2 k) 0 (frms κ 0 z) ++ doOs (z + 1) (gms κ (z + 1) (n - (z + 1))))
  rw [pkG_app, pkG_app, ljs_pk (κ := κ) (k := k) z 0 fun j _ hj => by
    have hj : j < z := by omega
    rw [pkG_congr (gc_at n κ k z j (by omega) hj), ljx j (by omega) _ _ (hb j hj)]; rfl,
    dos_pk (κ := κ) (n - (z + 1)) (z + 1) fun j h1 h2 => by
    rw [pkG_congr (gc_du n κ k z j (by omega)), dox j (by omega)]]
  have e : dvs (k2 k) 0 (frms κ 0 z) ++ (.none :: dvOs (k2 k) (z + 1) (gms κ (z + 1) (n - (z + 1)))) = duL κ k n := by
    rw [duL_C hn, show duC κ k 0 n = duC κ k 0 (z + (1 + (n - (z + 1)))) by rw [show z + (1 + (n - (z + 1))) = n by omega], duC_app, Nat.zero_add, duC_app, duC_dv z 0 fun i _ hi => hb i (by omega), ← duC_dvO]
    show _ = _ ++ ([duA z (κ z) (k z)] ++ duC κ k (z + 1) _)
    rw [du_bad z _ _ hbz]
    rfl
  rw [e, show pkG [0, 3, 4, 65, 67, 1037, 1038, 1039] (GC n κ k z) = [(0, .ctab tbC), (3, .cell (some (.id 1038))), (4, .cell (some (.id 65))), (65, .list (idl 160 0 n)), (67, .list (duL κ k n)), (1037, .dict frmD), (1038, .inst 666 1037), (1039, .dct (nms 0 z))] by kernel_rfl]
theorem b9 (P : Params) (a b d e w : AV) (m s c : Nat → AV) (k : Nat → Int) {n z : Nat} (hn : N4 n) (hz : z < n) (fs : List Fm) (gs : List (Option Fm)) (h1 : fs.length = z) (h2 : gs.length = n - (z + 1)) : run9 P n z a b d e w m s c k fs gs = end9 k fs gs := by
  rcases hn with rfl | rfl | rfl | rfl
  · obtain rfl := lt1 hz
    exact tab5_ext (tabN_ext (F := fun fs => tab5 0 (run9 P 1 0 a b d e w m s c k fs)) (G := fun fs => tab5 0 (end9 k fs)) (b9_10 P a b d e w m s c k) fs h1) gs h2
  · obtain rfl | rfl := lt2 hz
    · exact tab5_ext (tabN_ext (F := fun fs => tab5 1 (run9 P 2 0 a b d e w m s c k fs)) (G := fun fs => tab5 1 (end9 k fs)) (b9_20 P a b d e w m s c k) fs h1) gs h2
    · exact tab5_ext (tabN_ext (F := fun fs => tab5 0 (run9 P 2 1 a b d e w m s c k fs)) (G := fun fs => tab5 0 (end9 k fs)) (b9_21 P a b d e w m s c k) fs h1) gs h2
  · obtain rfl | rfl | rfl := lt3 hz
    · exact tab5_ext (tabN_ext (F := fun fs => tab5 2 (run9 P 3 0 a b d e w m s c k fs)) (G := fun fs => tab5 2 (end9 k fs)) (b9_30 P a b d e w m s c k) fs h1) gs h2
    · exact tab5_ext (tabN_ext (F := fun fs => tab5 1 (run9 P 3 1 a b d e w m s c k fs)) (G := fun fs => tab5 1 (end9 k fs)) (b9_31 P a b d e w m s c k) fs h1) gs h2
    · exact tab5_ext (tabN_ext (F := fun fs => tab5 0 (run9 P 3 2 a b d e w m s c k fs)) (G := fun fs => tab5 0 (end9 k fs)) (b9_32 P a b d e w m s c k) fs h1) gs h2
  · obtain rfl | rfl | rfl | rfl := lt4 hz
    · exact tab5_ext (tabN_ext (F := fun fs => tab5 3 (run9 P 4 0 a b d e w m s c k fs)) (G := fun fs => tab5 3 (end9 k fs)) (b9_40 P a b d e w m s c k) fs h1) gs h2
    · exact tab5_ext (tabN_ext (F := fun fs => tab5 2 (run9 P 4 1 a b d e w m s c k fs)) (G := fun fs => tab5 2 (end9 k fs)) (b9_41 P a b d e w m s c k) fs h1) gs h2
    · exact tab5_ext (tabN_ext (F := fun fs => tab5 1 (run9 P 4 2 a b d e w m s c k fs)) (G := fun fs => tab5 1 (end9 k fs)) (b9_42 P a b d e w m s c k) fs h1) gs h2
    · exact tab5_ext (tabN_ext (F := fun fs => tab5 0 (run9 P 4 3 a b d e w m s c k fs)) (G := fun fs => tab5 0 (end9 k fs)) (b9_43 P a b d e w m s c k) fs h1) gs h2
theorem b12 (P : Params) (a b d e w : AV) (p s : Nat → AV) (cl : Nat → Cl) (k : Nat → Int) {n : Nat} (hn : N4 n) (fs : List Fm) (h1 : fs.length = n) : run12' P n a b d e w p s cl k fs = end12 k fs := by
  rcases hn with rfl | rfl | rfl | rfl
  · exact tabN_ext (b12_1 P a b d e w p s cl k) fs h1
  · exact tabN_ext (b12_2 P a b d e w p s cl k) fs h1
  · exact tabN_ext (b12_3 P a b d e w p s cl k) fs h1
  · exact tabN_ext (b12_4 P a b d e w p s cl k) fs h1
theorem b10 (P : Params) (a b d e w : AV) (m s c : Nat → AV) (k : Nat → Int) {n : Nat} (hn : N4 n) (fs : List Fm) (h1 : fs.length = n) : run10 P n a b d e w m s c k fs = end10 n m s c k fs := by
  rcases hn with rfl | rfl | rfl | rfl
  · exact tabN_ext (b10_1 P a b d e w m s c k) fs h1
  · exact tabN_ext (b10_2 P a b d e w m s c k) fs h1
  · exact tabN_ext (b10_3 P a b d e w m s c k) fs h1
  · exact tabN_ext (b10_4 P a b d e w m s c k) fs h1
theorem bT (P : Params) (a b d e w : AV) (v s : Nat → AV) {n : Nat} (hn : N4 n) (ps : List Bool) (h1 : ps.length = n) : rsumT (selT n) (ky (litT n v s ps)) 1700 ((run (tab P) 59).tr fe0 tsB (lc8 a b d e w (S "")) ⟨litT n v s ps, 1650⟩) = some (false, litT n v s ps, true) := by
  have h : runT' P n a b d e w v s ps = endT n v s ps := by
    rcases hn with rfl | rfl | rfl | rfl
    · exact tab2_ext (bT_1 P a b d e w v s) ps h1
    · exact tab2_ext (bT_2 P a b d e w v s) ps h1
    · exact tab2_ext (bT_3 P a b d e w v s) ps h1
    · exact tab2_ext (bT_4 P a b d e w v s) ps h1
  unfold runT' endT at h
  rw [h1, Nat.beq_refl] at h
  exact h
theorem skip9 (P : Params) (a b d e w : AV) : tsum ([] ++ []) (ky (pkG [] (fun _ => none))) 1600 (exs (run (tab P) 59) fe0 [sL 9] (lc8 a b d e w (S "")) ⟨pkG [] (fun _ => none), 1600⟩) = some (.next, lc8 a b d e w (S ""), [], true) := by kernel_rfl
/- copy_back -/
noncomputable def cls : Kd → Ck
  | .num h m v => match frm (.num h m v) with | .v => .nv h | _ => .nu h
  | .tsk h _ => .tk h
  | .grd _ => .gd
noncomputable def selD1 (i : Nat) : List Nat := [1297 + 64 * i, 1296 + 64 * i, 144 + 128 * i, 129 + 128 * i, 128 + 128 * i]
noncomputable def preD1 (i : Nat) (k : Int) (z s : AV) (c : Ck) : List (Nat × AO) := [(1297 + 64 * i, .inst 212 (1296 + 64 * i)), (1296 + 64 * i, .dict [(S "value", c.cv i k), (S "number", .int (Int.ofNat (i + 1))), (S "subtype", s)]), (144 + 128 * i, .tup [.str (S "cell"), .id (129 + 128 * i)]), (129 + 128 * i, .inst 212 (128 + 128 * i)), (128 + 128 * i, .dict (varD i (c.vv i k z)))]
theorem dx10 (x : Kd) (k : Int) : cond (adds x) (pkG (selD1 0) (blkC 0 x k)) [] = cond (adds x) (preD1 0 (k - 2) (valA 0 x k) (csu 0 x) (cls x)) [] := tab33_ext (f := fun x => cond (adds x) (pkG (selD1 0) (blkC 0 x k)) []) (g := fun x => cond (adds x) (preD1 0 (k - 2) (valA 0 x k) (csu 0 x) (cls x)) []) (by kernel_rfl) x
theorem dx20 (x : Kd) (k : Int) : pkG (selV 0) (blkC 0 x k) = (cls x).vo 0 := tab33_ext (f := fun x => pkG (selV 0) (blkC 0 x k)) (g := fun x => (cls x).vo 0) (by kernel_rfl) x
theorem dx30 (x : Kd) (k : Int) : cond (adds x) (blkC 0 x k (1312 + 64 * 0)) none = cond (adds x) (some (.tup [.id (1297 + 64 * 0), .id (144 + 128 * 0), (cls x).su])) none := tab33_ext (f := fun x => cond (adds x) (blkC 0 x k (1312 + 64 * 0)) none) (g := fun x => cond (adds x) (some (.tup [.id (1297 + 64 * 0), .id (144 + 128 * 0), (cls x).su])) none) (by kernel_rfl) x
theorem dx11 (x : Kd) (k : Int) : cond (adds x) (pkG (selD1 1) (blkC 1 x k)) [] = cond (adds x) (preD1 1 (k - 2) (valA 1 x k) (csu 1 x) (cls x)) [] := tab33_ext (f := fun x => cond (adds x) (pkG (selD1 1) (blkC 1 x k)) []) (g := fun x => cond (adds x) (preD1 1 (k - 2) (valA 1 x k) (csu 1 x) (cls x)) []) (by kernel_rfl) x
theorem dx21 (x : Kd) (k : Int) : pkG (selV 1) (blkC 1 x k) = (cls x).vo 1 := tab33_ext (f := fun x => pkG (selV 1) (blkC 1 x k)) (g := fun x => (cls x).vo 1) (by kernel_rfl) x
theorem dx31 (x : Kd) (k : Int) : cond (adds x) (blkC 1 x k (1312 + 64 * 1)) none = cond (adds x) (some (.tup [.id (1297 + 64 * 1), .id (144 + 128 * 1), (cls x).su])) none := tab33_ext (f := fun x => cond (adds x) (blkC 1 x k (1312 + 64 * 1)) none) (g := fun x => cond (adds x) (some (.tup [.id (1297 + 64 * 1), .id (144 + 128 * 1), (cls x).su])) none) (by kernel_rfl) x
theorem dx12 (x : Kd) (k : Int) : cond (adds x) (pkG (selD1 2) (blkC 2 x k)) [] = cond (adds x) (preD1 2 (k - 2) (valA 2 x k) (csu 2 x) (cls x)) [] := tab33_ext (f := fun x => cond (adds x) (pkG (selD1 2) (blkC 2 x k)) []) (g := fun x => cond (adds x) (preD1 2 (k - 2) (valA 2 x k) (csu 2 x) (cls x)) []) (by kernel_rfl) x
theorem dx22 (x : Kd) (k : Int) : pkG (selV 2) (blkC 2 x k) = (cls x).vo 2 := tab33_ext (f := fun x => pkG (selV 2) (blkC 2 x k)) (g := fun x => (cls x).vo 2) (by kernel_rfl) x
theorem dx32 (x : Kd) (k : Int) : cond (adds x) (blkC 2 x k (1312 + 64 * 2)) none = cond (adds x) (some (.tup [.id (1297 + 64 * 2), .id (144 + 128 * 2), (cls x).su])) none := tab33_ext (f := fun x => cond (adds x) (blkC 2 x k (1312 + 64 * 2)) none) (g := fun x => cond (adds x) (some (.tup [.id (1297 + 64 * 2), .id (144 + 128 * 2), (cls x).su])) none) (by kernel_rfl) x
theorem dx13 (x : Kd) (k : Int) : cond (adds x) (pkG (selD1 3) (blkC 3 x k)) [] = cond (adds x) (preD1 3 (k - 2) (valA 3 x k) (csu 3 x) (cls x)) [] := tab33_ext (f := fun x => cond (adds x) (pkG (selD1 3) (blkC 3 x k)) []) (g := fun x => cond (adds x) (preD1 3 (k - 2) (valA 3 x k) (csu 3 x) (cls x)) []) (by kernel_rfl) x
theorem dx23 (x : Kd) (k : Int) : pkG (selV 3) (blkC 3 x k) = (cls x).vo 3 := tab33_ext (f := fun x => pkG (selV 3) (blkC 3 x k)) (g := fun x => (cls x).vo 3) (by kernel_rfl) x
theorem dx33 (x : Kd) (k : Int) : cond (adds x) (blkC 3 x k (1312 + 64 * 3)) none = cond (adds x) (some (.tup [.id (1297 + 64 * 3), .id (144 + 128 * 3), (cls x).su])) none := tab33_ext (f := fun x => cond (adds x) (blkC 3 x k (1312 + 64 * 3)) none) (g := fun x => cond (adds x) (some (.tup [.id (1297 + 64 * 3), .id (144 + 128 * 3), (cls x).su])) none) (by kernel_rfl) x
theorem dx1 (j : Nat) (hj : j < 4) (x : Kd) (k : Int) (h : adds x = true) : pkG (selD1 j) (blkC j x k) = preD1 j (k - 2) (valA j x k) (csu j x) (cls x) := by
  have e : cond (adds x) (pkG (selD1 j) (blkC j x k)) [] = cond (adds x) (preD1 j (k - 2) (valA j x k) (csu j x) (cls x)) [] := by
    match j, hj with
    | 0, _ => exact dx10 x k
    | 1, _ => exact dx11 x k
    | 2, _ => exact dx12 x k
    | 3, _ => exact dx13 x k
  rw [h] at e; exact e
theorem dx2 (j : Nat) (hj : j < 4) (x : Kd) (k : Int) : pkG (selV j) (blkC j x k) = (cls x).vo j := by
  match j, hj with
  | 0, _ => exact dx20 x k
  | 1, _ => exact dx21 x k
  | 2, _ => exact dx22 x k
  | 3, _ => exact dx23 x k
theorem dx3 (j : Nat) (hj : j < 4) (x : Kd) (k : Int) (h : adds x = true) : blkC j x k (1312 + 64 * j) = some (.tup [.id (1297 + 64 * j), .id (144 + 128 * j), (cls x).su]) := by
  have e : cond (adds x) (blkC j x k (1312 + 64 * j)) none = cond (adds x) (some (.tup [.id (1297 + 64 * j), .id (144 + 128 * j), (cls x).su])) none := by
    match j, hj with
    | 0, _ => exact dx30 x k
    | 1, _ => exact dx31 x k
    | 2, _ => exact dx32 x k
    | 3, _ => exact dx33 x k
  rw [h] at e; exact e
theorem nthR_len {α : Type} : ∀ {xs : List α}, nthR xs xs.length = none
  | [] => rfl
  | _ :: r => nthR_len (xs := r)
theorem nthR_lt {α : Type} {y : α} : ∀ {xs : List α} {t : Nat}, t < xs.length → nthR (xs ++ [y]) t = nthR xs t
  | _ :: _, 0, _ => rfl
  | _ :: r, t + 1, h => nthR_lt (xs := r) (Nat.lt_of_succ_lt_succ h)
theorem nthR_eq {α : Type} {y : α} : ∀ {xs : List α}, nthR (xs ++ [y]) xs.length = some y
  | [] => rfl
  | _ :: r => nthR_eq (xs := r)
theorem bks_nth (κ : Nat → Kd) : ∀ n t, t < (bks κ n).length → ∃ i, t ≤ i ∧ i < n ∧ hasP (κ i) = true ∧ nthR (bks κ n) t = some (.id (1312 + 64 * i))
  | 0, t, h => absurd h (Nat.not_lt_zero t)
  | n + 1, t, h => by
    have e : bks κ (n + 1) = cond (hasP (κ n)) (bks κ n ++ [.id (1312 + 64 * n)]) (bks κ n) := rfl
    rw [e] at h ⊢
    cases q : hasP (κ n) with
    | false =>
      rw [q, cond_false] at h
      rw [cond_false]
      obtain ⟨i, a1, a2, a3, a4⟩ := bks_nth κ n t h
      exact ⟨i, a1, by omega, a3, a4⟩
    | true =>
      rw [q, cond_true, List.length_append] at h
      rw [cond_true]
      by_cases ht : t < (bks κ n).length
      · obtain ⟨i, a1, a2, a3, a4⟩ := bks_nth κ n t ht
        exact ⟨i, a1, by omega, a3, by rw [nthR_lt ht]; exact a4⟩
      · have : t = (bks κ n).length := by
          have h : t < (bks κ n).length + 1 := h
          omega
        subst this
        exact ⟨n, bks_len κ n, Nat.lt_succ_self n, q, nthR_eq⟩
noncomputable def feB (P : Params) : FE := ⟨scF P 797, []⟩
noncomputable def dS (P : Params) : Stmt := nthStm 0 (bdF P 797)
noncomputable def fxI3 : List Nat := [0, 1, 2, 3, 4, 5, 65, 66, 67, 68, 1025, 1037, 1038, 1039, 1041]
noncomputable def fxD (n : Nat) (du bk : List AV) (nm : Lc) : List (Nat × AO) := (0, .ctab tbC) :: (1, .cell (some (.id 66))) :: (2, .cell (some (.id 1041))) :: (3, .cell (some (.id 1038))) :: (4, .cell (some (.id 65))) :: (5, .cell (some (.id 1025))) :: (65, .list (idl 160 0 n)) :: (66, .list (idl 176 0 n)) :: (67, .list du) :: (68, .list (idl 129 0 n)) :: (1025, .inst 687 1024) :: (1037, .dict frmD) :: (1038, .inst 666 1037) :: (1039, .dct nm) :: (1041, .list bk) :: []
theorem fxD_pk (n : Nat) (κ : Nat → Kd) (k : Nat → Int) : pkG fxI3 (G3 n κ k) = fxD n (duL κ k n) (bks κ n) (nms 0 n) := by kernel_rfl
theorem entD (P : Params) (F : Nat → AV → Option FrS) (n : Nat) (lc : Lc) (du bk : List AV) (nm : Lc) (rest : List (Nat × AO)) : (run (tabF P F) 59).ex fe0 (sL 11) lc ⟨fxD n du bk nm ++ rest, 1700⟩ =
    gx lc (retOf (exsK (run (tabF P F) 56) (feB P) [] (forN (tabF P F) (run (tabF P F) 55) (feB P) (forT (dS P)) (forBd (dS P)) 588 1700 64 (lcB0 []) ⟨[(1700, .itL 1041 0)] ++ (fxD n du bk nm ++ rest), 1701⟩))) fun _ τ => some (.next, lc, τ) := by kernel_rfl
noncomputable def DD (n : Nat) : List Nat := 1700 :: D3 n
noncomputable def InvD (n : Nat) (κ : Nat → Kd) (k : Nat → Int) (t : Nat) (σ : AS) : Prop := RepOn (DD n) σ (ptG 1700 (.itL 1041 t) (G3 n κ k)) ∧ keysLt σ.n σ.o = true ∧ σ.n = 1701 + 32 * t
noncomputable def LcD (lc : Lc) : Prop := lc = lcB0 [] ∨ ∃ a b c, lc = lcB0 [(S "cell", a), (S "place", b), (S "subtype", c)]
noncomputable def LD (P : Params) (m : Nat) (lc : Lc) (σ : AS) : Option (Fl × Lc × AS) := forN (tab P) (run (tab P) 55) (feB P) (forT (dS P)) (forBd (dS P)) 588 1700 m lc σ
noncomputable def tupS : Expr → List Expr | .Tuple ts _ _ => ts | _ => []
theorem asgD_eq (P : Params) (v : AV) (lc : Lc) (σ' : AS) : asgT (tab P) (run (tab P) 55) (feB P) (forT (dS P)) v lc σ' = (match seqOf σ' v with | some vs => cond (Nat.beq 3 vs.length) (asgs (tab P) (run (tab P) 55) (feB P) (tupS (forT (dS P))) vs lc σ') .none | .none => .none) := by kernel_rfl
theorem asgD2 (P : Params) (a b c : AV) (σ' : AS) {lc : Lc} (h : LcD lc) : asgs (tab P) (run (tab P) 55) (feB P) (tupS (forT (dS P))) [a, b, c] lc σ' = some (.next, lcB0 [(S "cell", a), (S "place", b), (S "subtype", c)], σ') := by
  rcases h with rfl | ⟨x, y, z, rfl⟩
  · kernel_rfl
  · kernel_rfl
theorem asgD (P : Params) {j : Nat} {a b c : AV} {σ' : AS} {lc : Lc} (h : LcD lc) (hg : σ'.get j = some (.tup [a, b, c])) : asgT (tab P) (run (tab P) 55) (feB P) (forT (dS P)) (.id j) lc σ' = some (.next, lcB0 [(S "cell", a), (S "place", b), (S "subtype", c)], σ') := by
  rw [asgD_eq, show seqOf σ' (.id j) = some [a, b, c] by unfold seqOf; dsimp only; rw [hg]]
  show asgs (tab P) (run (tab P) 55) (feB P) (tupS (forT (dS P))) [a, b, c] lc σ' = _
  exact asgD2 P a b c σ' h
theorem nextD (n : Nat) (κ : Nat → Kd) (k : Nat → Int) (t : Nat) : nextG (DD n) (ptG 1700 (.itL 1041 t) (G3 n κ k)) 1700 = (match nthR (bks κ n) t with | some v => some (some (v, .itL 1041 (t + 1))) | .none => some .none) := by kernel_rfl
theorem tD (P : Params) (t i : Nat) (hi : i < 4) (ht : t ≤ i) (k : Int) (z s : AV) (c : Ck) : turnD P t i k z s c = endD i k z s c := by
  match i, hi, t, ht with
  | 0, _, 0, _ => exact tab7_ext (tD00 P k z s) c
  | 1, _, 0, _ => exact tab7_ext (tD01 P k z s) c
  | 1, _, 1, _ => exact tab7_ext (tD11 P k z s) c
  | 2, _, 0, _ => exact tab7_ext (tD02 P k z s) c
  | 2, _, 1, _ => exact tab7_ext (tD12 P k z s) c
  | 2, _, 2, _ => exact tab7_ext (tD22 P k z s) c
  | 3, _, 0, _ => exact tab7_ext (tD03 P k z s) c
  | 3, _, 1, _ => exact tab7_ext (tD13 P k z s) c
  | 3, _, 2, _ => exact tab7_ext (tD23 P k z s) c
  | 3, _, 3, _ => exact tab7_ext (tD33 P k z s) c
theorem g3_D (P : Params) {n : Nat} (hn : N4 n) (κ : Nat → Kd) (k : Nat → Int) (i t : Nat) (hi : i < n) : mpG (ptG 1700 (.itL 1041 t) (G3 n κ k)) (selD1 i) = mpG (blkC i (κ i) (k i)) (selD1 i) ∧ mpG (ptG 1700 (.itL 1041 t) (G3 n κ k)) (selV i) = mpG (blkC i (κ i) (k i)) (selV i) ∧ ptG 1700 (.itL 1041 t) (G3 n κ k) (1312 + 64 * i) = blkC i (κ i) (k i) (1312 + 64 * i) ∧ memN (DD n) (1312 + 64 * i) = true ∧ subN (selD i) (DD n) = true ∧ (tab P).fr 588 (.id (1312 + 64 * i)) = some ⟨selD i, [], 32⟩ := by
  have h := tabP_ext (f := fun n i => (mpG (ptG 1700 (.itL 1041 t) (G3 n κ k)) (selD1 i), mpG (ptG 1700 (.itL 1041 t) (G3 n κ k)) (selV i), ptG 1700 (.itL 1041 t) (G3 n κ k) (1312 + 64 * i), memN (DD n) (1312 + 64 * i), subN (selD i) (DD n), (tab P).fr 588 (.id (1312 + 64 * i))))
    (g := fun n i => (mpG (blkC i (κ i) (k i)) (selD1 i), mpG (blkC i (κ i) (k i)) (selV i), blkC i (κ i) (k i) (1312 + 64 * i), true, true, some ⟨selD i, [], 32⟩)) (by kernel_rfl) hn hi
  exact ⟨congrArg (·.1) h, congrArg (·.2.1) h, congrArg (·.2.2.1) h, congrArg (·.2.2.2.1) h, congrArg (·.2.2.2.2.1) h, congrArg (·.2.2.2.2.2) h⟩
theorem stepD (P : Params) {n : Nat} (hn : N4 n) (κ : Nat → Kd) (k : Nat → Int) {t : Nat} {σ : AS} {lc : Lc} (I : InvD n κ k t σ) (hl : LcD lc) (hb : ∀ j, j < n → bad (κ j) = false) (ht : t < (bks κ n).length) :
    ∃ lc' σ', LcD lc' ∧ InvD n κ k (t + 1) σ' ∧ ∀ m, LD P (m + 1) lc σ = LD P m lc' σ' := by
  obtain ⟨i, h1, h2, h3, h4⟩ := bks_nth κ n t ht
  have hi4 : i < 4 := by have := n4_le hn; omega
  have ha : adds (κ i) = true := by unfold adds; rw [h3, hb i h2]; rfl
  obtain ⟨g1, g2, g3, g4, g5, g6⟩ := g3_D P hn κ k i (t + 1) h2
  have hp : pkG (selD i) (ptG 1700 (.itL 1041 (t + 1)) (G3 n κ k)) = preD i (k i - 2) (valA i (κ i) (k i)) (csu i (κ i)) (cls (κ i)) := by
    show pkG (selD1 i ++ (sSub ++ selV i)) _ = preD1 i (k i - 2) (valA i (κ i) (k i)) (csu i (κ i)) (cls (κ i)) ++ (subO ++ (cls (κ i)).vo i)
    rw [pkG_app, pkG_app, pkG_congr g1, pkG_congr g2, dx1 i hi4 _ _ ha, dx2 i hi4]
    rw [show pkG sSub (ptG 1700 (.itL 1041 (t + 1)) (G3 n κ k)) = subO by kernel_rfl]
  obtain ⟨σ', a1, a2, a3, a4, a5⟩ := loop_same (T := tab P) (r := run (tab P) 55) (fe := feB P) (t := forT (dS P)) (body := forBd (dS P)) (ln := 588) (f := ⟨selD i, [], 32⟩) (lc := lc) (v := .id (1312 + 64 * i)) (a := .itL 1041 (t + 1)) (lc₁ := lcB i (cls (κ i))) (lc₂ := lcB i (cls (κ i))) (fl := .next) I.1 I.2.1 I.2.2 rfl (by rw [nextD, h4])
    (fun σ' R' => asgD P hl (by rw [R' (1312 + 64 * i) g4, g3]; exact dx3 i hi4 _ _ ha)) g6 g5 hp
    (by
      have e : (selD i ++ addN (1701 + 32 * t) []) = selD i := List.append_nil _
      show tsum (selD i ++ addN (1701 + 32 * t) []) _ _ _ = _
      rw [e]; exact tD P t i hi4 h1 _ _ _ _)
  refine ⟨lcB i (cls (κ i)), σ', .inr ⟨_, _, _, rfl⟩, ⟨a1, a2, by rw [a3]; show 1701 + 32 * t + 32 = _; omega⟩, fun m => a4 rfl m⟩
theorem chainD (P : Params) {n : Nat} (hn : N4 n) (κ : Nat → Kd) (k : Nat → Int) (hb : ∀ j, j < n → bad (κ j) = false) : ∀ d t, t + d = (bks κ n).length → ∀ {σ : AS} {lc : Lc}, InvD n κ k t σ → LcD lc → ∀ m, ∃ lc' σ', LD P (m + d + 1) lc σ = some (.next, lc', σ') ∧ RepOn (D3 n) σ' (G3 n κ k) ∧ σ'.n ≤ 1900
  | 0, t, hd, σ, lc, I, hl, m => by
    have ht : t = (bks κ n).length := hd
    have hnx : nextG (DD n) (ptG 1700 (.itL 1041 t) (G3 n κ k)) 1700 = some none := by rw [nextD, ht, nthR_len]
    obtain ⟨h1, h2⟩ := loop_end (T := tab P) (r := run (tab P) 55) (fe := feB P) (t := forT (dS P)) (body := forBd (dS P)) (ln := 588) (lc := lc) I.1 I.2.1 rfl hnx
    refine ⟨lc, _, h2 m, ((h1.sub (D' := D3 n) (by rcases hn with rfl | rfl | rfl | rfl <;> kernel_rfl)).congr (by rcases hn with rfl | rfl | rfl | rfl <;> kernel_rfl)), ?_⟩
    show σ.n ≤ 1900
    have := I.2.2
    have := bks_len κ n
    have := n4_le hn
    omega
  | d + 1, t, hd, σ, lc, I, hl, m => by
    obtain ⟨lc', σ', hl', I', e⟩ := stepD P hn κ k I hl hb (lt_end hd)
    obtain ⟨lc2, σ2, e2, r⟩ := chainD P hn κ k hb d (t + 1) ((Nat.succ_add t d).trans hd) I' hl' m
    exact ⟨lc2, σ2, (e (m + d + 1)).trans e2, r⟩
theorem ltD {n : Nat} (hn : N4 n) : ltN 1600 (D3 n) = true ∧ ltN 1650 (D3 n) = true ∧ ltN 1700 (D3 n) = true ∧ ltN 1900 (D3 n) = true ∧ subN (sel10 n) (D3 n) = true ∧ subN (selT n) (D3 n) = true ∧ subN (sel12 n) (D3 n) = true := by
  rcases hn with rfl | rfl | rfl | rfl <;> decide +kernel
/-- copy_back leaves all as it was -/
theorem run11 (P : Params) {n : Nat} (hn : N4 n) (κ : Nat → Kd) (k : Nat → Int) (hb : ∀ j, j < n → bad (κ j) = false) (lc : Lc) : ∃ σ', exs (run (tab P) 59) fe0 [sL 11] lc (mkS (D3 n) (G3 n κ k) 1700) = some (.next, lc, σ') ∧ RepOn (D3 n) σ' (G3 n κ k) ∧ σ'.n ≤ 1900 := by
  have es : mkS (D3 n) (G3 n κ k) 1700 = ⟨fxD n (duL κ k n) (bks κ n) (nms 0 n) ++ pkG (sSub ++ (bids 0 n ++ cids 0 n)) (G3 n κ k), 1700⟩ := by
    show (⟨pkG (fxI3 ++ (sSub ++ (bids 0 n ++ cids 0 n))) (G3 n κ k), 1700⟩ : AS) = _
    rw [pkG_app, fxD_pk]
  have lt := (ltD hn).2.2.1
  have R0 : RepOn (DD n) (mkS (D3 n) (G3 n κ k) 1700) (G3 n κ k) := mkS_rep2 (by rcases hn with rfl | rfl | rfl | rfl <;> kernel_rfl)
  have K0 : keysLt 1700 (mkS (D3 n) (G3 n κ k) 1700).o = true := keysLt_pkG lt
  have R1 := RepOn.push (l := [(1700, .itL 1041 0)]) (n := 1700) (n' := 1701) (o := (mkS (D3 n) (G3 n κ k) 1700).o) R0 (by decide) K0 rfl
  have I0 : InvD n κ k 0 ⟨[(1700, .itL 1041 0)] ++ (mkS (D3 n) (G3 n κ k) 1700).o, 1701⟩ := ⟨R1.congr (by rcases hn with rfl | rfl | rfl | rfl <;> kernel_rfl), keysLt_app rfl (keysLt_mono (show 1700 ≤ 1701 by decide) K0), rfl⟩
  obtain ⟨lc', σ', h1, h2, h3⟩ := chainD P hn κ k hb (bks κ n).length 0 (Nat.zero_add _) I0 (.inl rfl) (63 - (bks κ n).length)
  rw [show 63 - (bks κ n).length + (bks κ n).length + 1 = 64 by have := bks_len κ n; have := n4_le hn; omega] at h1
  refine ⟨σ', exs_one ?_, h2, h3⟩
  have T := entD P frT n lc (duL κ k n) (bks κ n) (nms 0 n) (pkG (sSub ++ (bids 0 n ++ cids 0 n)) (G3 n κ k))
  rw [← es] at T
  rw [show tabF P frT = tab P from rfl] at T
  rw [T]
  show gx lc (retOf (exsK (run (tab P) 56) (feB P) [] (LD P 64 (lcB0 []) ⟨[(1700, .itL 1041 0)] ++ (mkS (D3 n) (G3 n κ k) 1700).o, 1701⟩))) _ = _
  rw [h1]
  rfl
end Mine
end

section
open PySem PySem.W PyProof.Rows PySem.Calls
set_option Elab.async false
set_option maxRecDepth 100000
set_option maxHeartbeats 0
set_option linter.unusedVariables false
namespace Mine
/- the draws of a script -/
theorem hv_bd (sc : List Int) (p m : Nat) (hm : 0 < m) : 0 ≤ hv sc p m ∧ hv sc p m < (m : Int) := by
  unfold hv
  split
  · exact ⟨Int.emod_nonneg _ (by omega), Int.emod_lt_of_pos _ (by omega)⟩
  · omega
theorem dv_int {k z : Int} (h : k = z) : DV (.int z) k := fun t => ⟨t, by rw [h]⟩
theorem dv_v (k : Int) : ∃ v, DV (drV v k) k := by
  by_cases h : k = 13
  · exact ⟨.u, dv_int h⟩
  · have mk : ∀ c, clsOf (k - 2) = c → DV (.dr c k) k := fun c hc t => ⟨⟨t, rfl⟩, hc, h⟩
    cases q : clsOf (k - 2) with
    | lo => exact ⟨.lo, mk _ q⟩
    | inn => exact ⟨.inn, mk _ q⟩
    | hi => exact ⟨.hi, mk _ q⟩
theorem dv_m (sc : List Int) (p : Nat) : ∃ m, DV (.int (moN m)) (hv sc p 3) := by
  obtain ⟨h1, h2⟩ := hv_bd sc p 3 (by decide)
  obtain ⟨i, h, hi⟩ := int_of (n := 3) h1 h2
  rcases lt3 hi with rfl | rfl | rfl
  · exact ⟨.i, dv_int h⟩
  · exact ⟨.o, dv_int h⟩
  · exact ⟨.x, dv_int h⟩
theorem draw1 (sc : List Int) (p : Nat) : ∃ (x : Kd) (k : Int) (p' : Nat), ∀ q, QR sc p' q → QR sc p (drw x k q) := by
  obtain ⟨h1, h2⟩ := hv_bd sc p 5 (by decide)
  obtain ⟨m, hm⟩ := dv_m sc (p + 1)
  obtain ⟨i, h, hi⟩ := int_of (n := 5) h1 h2
  rcases Nat.lt_succ_iff_lt_or_eq.mp hi with hi | rfl
  rcases lt4 hi with rfl | rfl | rfl | rfl
  · obtain ⟨v, hv'⟩ := dv_v (hv sc (p + 1 + 1) 14)
    exact ⟨.num false m v, hv sc (p + 1 + 1) 14, p + 1 + 1 + 1, fun q hq => ⟨by decide, dv_int h, by decide, hm, by decide, hv', hq⟩⟩
  · obtain ⟨v, hv'⟩ := dv_v (hv sc (p + 1 + 1) 14)
    exact ⟨.num true m v, hv sc (p + 1 + 1) 14, p + 1 + 1 + 1, fun q hq => ⟨by decide, dv_int h, by decide, hm, by decide, hv', hq⟩⟩
  · exact ⟨.tsk false m, 0, p + 1 + 1, fun q hq => ⟨by decide, dv_int h, by decide, hm, hq⟩⟩
  · exact ⟨.tsk true m, 0, p + 1 + 1, fun q hq => ⟨by decide, dv_int h, by decide, hm, hq⟩⟩
  · exact ⟨.grd m, 0, p + 1 + 1, fun q hq => ⟨by decide, dv_int h, by decide, hm, hq⟩⟩
theorem qsF_congr {κ κ' : Nat → Kd} {k k' : Nat → Int} : ∀ n i, (∀ j, i ≤ j → κ j = κ' j ∧ k j = k' j) → qsF κ k i n = qsF κ' k' i n
  | 0, _, _ => rfl
  | n + 1, i, h => by
    show drw (κ i) (k i) (qsF κ k (i + 1) n) = drw (κ' i) (k' i) (qsF κ' k' (i + 1) n)
    rw [(h i (Nat.le_refl _)).1, (h i (Nat.le_refl _)).2, qsF_congr n (i + 1) fun j hj => h j (by omega)]
theorem drawN (sc : List Int) : ∀ n i p, ∃ (κ : Nat → Kd) (k : Nat → Int), QR sc p (qsF κ k i n)
  | 0, _, _ => ⟨fun _ => .grd .i, fun _ => 0, trivial⟩
  | n + 1, i, p => by
    obtain ⟨x, kx, p', h⟩ := draw1 sc p
    obtain ⟨κ, k, hq⟩ := drawN sc n (i + 1) p'
    refine ⟨fun j => if j = i then x else κ j, fun j => if j = i then kx else k j, ?_⟩
    show QR sc p (drw (if i = i then x else κ i) (if i = i then kx else k i) (qsF _ _ (i + 1) n))
    rw [if_pos rfl, if_pos rfl]
    refine h _ ?_
    rw [qsF_congr (κ' := κ) (k' := k) n (i + 1) fun j hj => ⟨if_neg (by omega), if_neg (by omega)⟩]
    exact hq
theorem draws (sc : List Int) : ∃ (n : Nat) (κ : Nat → Kd) (k : Nat → Int), N4 n ∧ QR sc 0 (qAll κ k n) := by
  obtain ⟨h1, h2⟩ := hv_bd sc 0 4 (by decide)
  obtain ⟨i, h, hi⟩ := int_of (n := 4) h1 h2
  rcases lt4 hi with rfl | rfl | rfl | rfl
  · obtain ⟨κ, k, hq⟩ := drawN sc 1 0 1
    exact ⟨1, κ, k, .inl rfl, by decide, dv_int h, hq⟩
  · obtain ⟨κ, k, hq⟩ := drawN sc 2 0 1
    exact ⟨2, κ, k, .inr (.inl rfl), by decide, dv_int h, hq⟩
  · obtain ⟨κ, k, hq⟩ := drawN sc 3 0 1
    exact ⟨3, κ, k, .inr (.inr (.inl rfl)), by decide, dv_int h, hq⟩
  · obtain ⟨κ, k, hq⟩ := drawN sc 4 0 1
    exact ⟨4, κ, k, .inr (.inr (.inr rfl)), by decide, dv_int h, hq⟩
theorem bad_or (κ : Nat → Kd) : ∀ n, (∀ j, j < n → bad (κ j) = false) ∨ ∃ z, z < n ∧ (∀ j, j < z → bad (κ j) = false) ∧ bad (κ z) = true
  | 0 => .inl fun j hj => absurd hj (Nat.not_lt_zero j)
  | n + 1 => by
    rcases bad_or κ n with h | ⟨z, h1, h2, h3⟩
    · cases q : bad (κ n) with
      | true => exact .inr ⟨n, Nat.lt_succ_self n, h, q⟩
      | false =>
        refine .inl fun j hj => ?_
        by_cases e : j = n
        · subst e; exact q
        · exact h j (by omega)
    · exact .inr ⟨z, by omega, h2, h3⟩
/- small things of the join -/
theorem hd0 : hd1 lawD.body = sL 0 := by kernel_rfl
theorem g0a {n : Nat} (hn : N4 n) (κ : Nat → Kd) (k : Nat → Int) : (mkS (D2 n) (G2 n κ k) 1056).get 0 = some (.ctab []) := by
  rw [mkS_rep (ok2 hn).1 0 (by rcases hn with rfl | rfl | rfl | rfl <;> kernel_rfl)]
  kernel_rfl
theorem g0b {n : Nat} (hn : N4 n) (κ : Nat → Kd) (k : Nat → Int) : (mkS (D2 n) (GB n κ k) 1280).get 0 = some (.ctab tbB) := by
  rw [mkS_rep (ltB hn) 0 (by rcases hn with rfl | rfl | rfl | rfl <;> kernel_rfl)]
  kernel_rfl
theorem nm_word (P : Params) (a b c d e y : AV) (σ : AS) : nmOf (tab P) fe0 (S "_law_word") (lcR a b c d e [(S "due", y)]) σ = some (.glob 883) := by kernel_rfl
theorem nm_due (P : Params) (a b c d e y : AV) (σ : AS) : nmOf (tab P) fe0 (S "due") (lcR a b c d e [(S "due", y)]) σ = some y := by kernel_rfl
theorem st7 (a b c d e y v : AV) (σ : AS) : st1 fe0 (S "lay") v (lcR a b c d e [(S "due", y)]) σ = some (lcR a b c d e [(S "due", y), (S "lay", v)], σ) := by kernel_rfl
theorem cl6 : clSel fe0.cl (laS lamE).names [] = some clB := by kernel_rfl
theorem cl7 : clSel fe0.cl (fdS (sL 7)).names [] = some clC := by kernel_rfl
theorem d9 {n z : Nat} (hn : N4 n) (hz : z < n) : ltN 1600 (D9 n z) = true ∧ subN (sel9 n z) (D9 n z) = true := by
  have h := tabP_ext (f := fun n z => (ltN 1600 (D9 n z), subN (sel9 n z) (D9 n z))) (g := fun n z => (true, true)) (by kernel_rfl) hn hz
  exact ⟨congrArg (·.1) h, congrArg (·.2) h⟩
section
variable {prog : Program} {w : World} {sc : List Int} {h₀ : Heap} {P : Params} {K : Frag} {p : Program} {loose : List Str} {mean : ExcName → Option Value} {mg mb : Str → Option Value}
variable {A : Around} {a : Addr} {cl : List (Str × Addr)} {outer : List Env} {L : Addr} {E : Value → Shared → Prop} {Q : Flow → Shared → Prop} {s₀ s : Shared}
/-- the end where no formal is refused -/
theorem endOk {n : Nat} (hn : N4 n) (κ : Nat → Kd) (k : Nat → Int) (hb : ∀ j, j < n → bad (κ j) = false) (H : Snd prog w sc h₀ (run (tab P) 59) 59) {cn : Str} {ccd : Value} (ax : AX A (envX cn fe0.sc L a ccd cl) outer L [] 59) (v1 v2 v3 v4 v5 : AV)
    (X : LS prog w sc h₀ L cl s₀ (mkS (D3 n) (G3 n κ k) 1600) (lc8 v1 v2 v3 v4 v5 (S "")) s)
    (kk : ∀ σ' ρ' news' m' s' l, St prog w sc h₀ [] L m' σ' ρ' news' s' → σ'.get 0 = some (.ctab l) → ρ' 0 = 885 → Sm s₀ s' → Q (.ret (.bool true)) s') :
    wpAny (model prog w) A (execs [sL 9, sL 10, sL 11, sL 12] (envX cn fe0.sc L a ccd cl)) Q E s := by
  obtain ⟨l1, l2, l3, l4, s1, s2, s3⟩ := ltD hn
  refine LS.piece (pre := [sL 9]) (sel := []) (new := []) (D' := D3 n) (n1 := 1600) (n' := 1600) (l := []) H.ex ax X l1 rfl (skip9 P v1 v2 v3 v4 v5) (Nat.le_refl _) (Nat.le_refl _) (by rcases hn with rfl | rfl | rfl | rfl <;> kernel_rfl) fun t1 X1 => ?_
  have X1 : LS prog w sc h₀ L cl s₀ (mkS (D3 n) (G3 n κ k) 1600) (lc8 v1 v2 v3 v4 v5 (S "")) t1 := X1
  have r10 := b10 P v1 v2 v3 v4 v5 (mA κ) (sA κ) (cA κ) (k2 k) hn (frms κ 0 n) (frms_len κ 0 n)
  unfold run10 end10 at r10
  rw [pds_refl] at r10
  refine LS.or10 (n1 := 1650) (n' := 1700) H ax X1 l1 l2 s1 (lit10_eq hn κ k hb) r10 (by decide) s2 (litT_eq hn κ k) (bT P v1 v2 v3 v4 v5 (vA κ k) (sA' κ) hn (psL κ 0 n) (psL_len κ 0 n)) (by decide) fun t2 X2 => ?_
  refine LS.whole (pre := [sL 11]) (n' := 1900) H.ex ax X2 (run11 P hn κ k hb _) fun t3 X3 => ?_
  have r12 := b12 P v1 v2 v3 v4 v5 (pA κ) (sA' κ) (clA κ) (k2 k) hn (ofrms κ 0 n) (ofrms_len κ 0 n)
  unfold run12' end12 at r12
  rw [pds_refl] at r12
  exact LS.retp H.ex ax X3 l4 s3 (lit12_eq hn κ k) r12 kk
/-- the end where the formal z is refused -/
theorem endBad {n : Nat} (hn : N4 n) (κ : Nat → Kd) (k : Nat → Int) {z : Nat} (hz : z < n) (hb : ∀ j, j < z → bad (κ j) = false) (hbz : bad (κ z) = true) (H : Snd prog w sc h₀ (run (tab P) 59) 59) {cn : Str} {ccd : Value} (ax : AX A (envX cn fe0.sc L a ccd cl) outer L [] 59) (v1 v2 v3 v4 v5 : AV)
    (X : LS prog w sc h₀ L cl s₀ (mkS (D9 n z) (GC n κ k z) 1600) (lc8 v1 v2 v3 v4 v5 (S "constraint_error")) s)
    (kk : ∀ σ' ρ' news' m' s' l, St prog w sc h₀ [] L m' σ' ρ' news' s' → σ'.get 0 = some (.ctab l) → ρ' 0 = 885 → Sm s₀ s' → Q (.ret (.bool true)) s') :
    wpAny (model prog w) A (execs [sL 9, sL 10, sL 11, sL 12] (envX cn fe0.sc L a ccd cl)) Q E s := by
  have r := b9 P v1 v2 v3 v4 v5 (mA κ) (sA κ) (cA κ) (k2 k) hn hz (frms κ 0 z) (gms κ (z + 1) (n - (z + 1))) (frms_len κ 0 z) (gms_len κ _ _)
  unfold run9 end9 at r
  rw [pds_refl] at r
  exact LS.retp H.ex ax X (d9 hn hz).1 (d9 hn hz).2 (lit9_eq hn κ k hz hb hbz) r kk
end
theorem lawRuns : LawRuns := by
  intro w ns p loose mean mg mb h₀ L m ρ news s cl fa ls vs Q E KX T CH hlen hI hL St0 hcl h885 hm ax kk
  have G := glb KX T
  have SN := run_sound G (haul_ok (prog := PySem.Challenge.rw_rg0058_01.row.prog) (w := w) (sc := ns.take 30) G (by rw [List.length_take]; omega)) (word_ok G) 59 59 (Nat.le_refl _)
  have ax9 := ax.le (show 59 ≤ 60 by decide)
  obtain ⟨n, κ, k, hn, hq⟩ := draws (ns.take 30)
  rw [body_eq]
  refine wpAny_execs_cons ?_
  rw [← hd0]
  refine first_sound G hlen hI hL hm hq ax St0 hcl fun m' ρ' news' s' S' l' N' M' => ?_
  have X : LS PySem.Challenge.rw_rg0058_01.row.prog w (ns.take 30) h₀ L cl s (σ1 (qAll κ k n)) [(S "cart", .id 6)] s' := ⟨m', ρ', news', S', l', hcl.mono N'.le N'.ext, (by decide : 0 < 8), by rw [N'.ext 0 (by decide : 0 < 6)]; exact h885, M'⟩
  refine upto5 hn κ k SN.ex ax9 X fun t1 X1 => ?_
  refine LS.lam (cl' := clB) (q := qB) (tb := []) (y := dueS κ n) (D' := D2 n) (G' := GB n κ k) (n' := 1280) G SN cl6 (by kernel_rfl) (by kernel_rfl) (nm_word _ _ _ _ _ _ _ _) (by kernel_rfl) (g0a hn κ k) rfl CH rfl (wordB w.params hn κ k) (fun σ => nm_due _ _ _ _ _ _ _ _) ax9 X1 fun t2 X2 => ?_
  refine LS.defn (cl' := clC) (q := qC) (tb := tbB) G cl7 (by kernel_rfl) (by kernel_rfl) (by kernel_rfl) (by kernel_rfl) (g0b hn κ k) (by kernel_rfl) CH rfl (st7 _ _ _ _ _ _ _ _) ax9 X2 fun t3 X3 => ?_
  have X3 : LS PySem.Challenge.rw_rg0058_01.row.prog w (ns.take 30) h₀ L cl s ⟨(σC n κ k).o, 1282⟩ (lc8 (.int (Int.ofNat (n - 1))) (.str (soS (κ (n - 1)))) (.str (moS (mdOf (κ (n - 1))))) (valA (n - 1) (κ (n - 1)) (k (n - 1))) (plM (n - 1) (mdOf (κ (n - 1)))) (dueS κ n)) t3 := X3
  rcases bad_or κ n with hb | ⟨z, hz, hb, hbz⟩
  · obtain ⟨σ₂, c1, c2, c3⟩ := wordC_ok w.params hn κ k hb
    have hd : dueS κ n = S "" := by unfold dueS; rw [anyBad_false hb]; rfl
    refine LS.whole (pre := [sL 8]) (n' := 1600) SN.ex ax9 X3 ⟨σ₂, run8 w.params _ _ _ _ _ _ c1, c2, c3⟩ fun t4 X4 => ?_
    rw [hd] at X4
    exact endOk hn κ k hb SN ax9 _ _ _ _ _ X4 kk
  · obtain ⟨σ₂, c1, c2, c3⟩ := wordC_bad w.params hn κ k hz hb hbz
    have hd : dueS κ n = S "constraint_error" := by unfold dueS; rw [anyBad_true hbz hz]; rfl
    refine LS.whole (pre := [sL 8]) (n' := 1600) SN.ex ax9 X3 ⟨σ₂, run8 w.params _ _ _ _ _ _ c1, c2, c3⟩ fun t4 X4 => ?_
    rw [hd] at X4
    exact endBad hn κ k hz hb hbz SN ax9 _ _ _ _ _ X4 kk
theorem closed : PySem.Challenge.rw_rg0058_01.Holds := holds lawRuns
end Mine
end

theorem PySem.Challenge.cw_rg0058_01_holds : PySem.Challenge.rw_rg0058_01.Holds :=
  Mine.closed
