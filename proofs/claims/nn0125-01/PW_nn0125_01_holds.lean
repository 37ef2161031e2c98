import PyProof.Rows.All
import Wide.All
import OpenK.AllK
import Wide.FinOn
import PySem.Challenge.RW_nn0125_01
set_option Elab.async false
set_option compiler.extract_closed false
open PySem PySem.W PyProof.Rows PySem.Calls
namespace Mine
local macro_rules | `(tactic| walk_at $s:str) => `(tactic| k_extra $s)
local macro_rules | `(tactic| k_ne) => `(tactic| k_extra "k_ne")
local macro_rules | `(tactic| k_inst) => `(tactic| k_extra "k_inst")
local macro_rules | `(tactic| k_all) => `(tactic| k_extra "k_all")
local macro_rules | `(tactic| k_mem) => `(tactic| k_extra "k_mem")
local macro_rules | `(tactic| omega) => `(tactic| k_extra "om")
section
theorem rg_Head1 : True := by
  k_with_none
  
  trivial
open PySem PySem.W PyProof.Rows PySem.Calls
set_option maxRecDepth 1000000
abbrev PW : Program := PySem.Challenge.pw_nn0125_01
section
variable {p : Program} {w : World} {n₀ : Nat} {ann : Option Value}
noncomputable def goT (den : Code → Sem PySem.Fin) (p : Program) (w : World) (n₀ : Nat) (ann : Option Value) : Nat → SharedT → Thread → Option (SharedT × Thread)
  | 0, s, t => some (s, t)
  | n + 1, s, t => match through t with
    | true => some (s, t)
    | false => match Fast.tw6613529449190102663 n₀ ann t with
      | false => none
      | true => match Fast.tw10156331382660048174 den p w s t with
        | none => none
        | some (s', t') => goT den p w n₀ ann n s' t'
theorem goT_spec : ∀ {n : Nat} {s s' : SharedT} {t t' : Thread}, goT (denote treeTable) p w n₀ ann n s t = some (s', t') → through t' = true → topRun treeTable p w n₀ ann (n + 1) s.abs t = some s'.abs
  | 0, s, s', t, t', h, ht => by
    cases h
    unfold topRun
    rw [ht]
  | n + 1, s, s', t, t', h, ht => by
    unfold goT at h
    unfold topRun
    cases he : through t with
    | true => rw [he] at h; cases h; rfl
    | false =>
      rw [he, ← Fast.te6613529449190102663] at h
      cases hk : stepOk n₀ ann t with
      | false => rw [hk] at h; cases h
      | true =>
        rw [hk, ← Fast.te10156331382660048174] at h
        cases hs : stepT (denote treeTable) p w s t with
        | none => rw [hs] at h; cases h
        | some r =>
          obtain ⟨s₂, t₂⟩ := r
          rw [hs] at h
          rw [stepT_spec hs]
          exact goT_spec h ht
noncomputable def den : Code → Sem PySem.Fin := Fast.tw11892475500146522536 Fast.tw14364793385576792824
theorem den_eq : denote treeTable = den := by
  unfold den
  rw [← Fast.te14364793385576792824, ← Fast.te11892475500146522536]
noncomputable def tree0 (P : Params) : BT := (List.range 11).foldl (fun t i => t.ins i ((boot_heap P).objs.toList.getD i default)) .nil
noncomputable def st0 (w : World) (os : OsState) : SharedT := ⟨tree0 w.params, 11, {}, #[], {}, 181, os⟩
theorem st0_abs (w : World) (os : OsState) : (st0 w os).abs = ⟨boot_heap w.params, #[], boot_drawn, boot_toks, os⟩ := by kernel_rfl
noncomputable def endT (p : Program) (w : World) (ann : Option Value) (M : Nat) (os : OsState) : Option SharedT := match goT den p w 11 ann M (st0 w os) (topStub p) with
  | some (s, t) => (match through t with | true => some s | false => none)
  | none => none
theorem endT_spec {M : Nat} {os : OsState} {s : SharedT} (h : endT p w ann M os = some s) : topRun treeTable p w 11 ann (M + 1) ⟨boot_heap w.params, #[], boot_drawn, boot_toks, os⟩ (topStub p) = some s.abs := by
  unfold endT at h
  rw [← den_eq] at h
  cases e : goT (denote treeTable) p w 11 ann M (st0 w os) (topStub p) with
  | none => rw [e] at h; cases h
  | some r =>
    obtain ⟨s', t'⟩ := r
    rw [e] at h
    cases ht : through t' with
    | false => simp only [ht] at h; cases h
    | true =>
      simp only [ht] at h
      cases h
      rw [← st0_abs]
      exact goT_spec e ht
theorem left_one {q : Program} {loose : List Str} {Xt : Shared → Bool} {α : Type} {Yf : Shared → α} {Ya : World → α} {N M : Nat} {g0 : Bool}
    (open_ : ∀ w : World, (fencedOpening treeTable p w N).map (fun s => (s.heap, s.gens, s.drawn, s.toks)) = some (boot_heap w.params, #[], boot_drawn, boot_toks))
    (size : ∀ w : World, ((boot_heap w.params).isNs mainGlobals && (#[] : Array GenState).size == 0, (boot_heap w.params).objs.size, (boot_heap w.params).nsMap mainGlobals "__annotations__") = (true, 11, ann))
    (le : Nat.ble (M + 1) N = true)
    (one1 : ∀ (w : World) (os : OsState), (endT p w ann M os).map (fun s => staticsOk (importedModules p.main.body) (boot_heap w.params) s.abs.heap && namesBound p s.abs.heap && gensDone s.abs && laidKept (boot_heap w.params) s.abs.heap) = some true)
    (one2 : ∀ (w : World) (os : OsState), (endT p w ann M os).map (fun s => openSeen q loose (importedModules p.main.body) Xt g0 s.abs) = some (openGood q loose))
    (one3 : ∀ (w : World) (os : OsState), (endT p w ann M os).map (fun s => Yf s.abs) = some (Ya w)) : LeftO p q loose Xt Yf Ya N g0 := fun w => by
  obtain ⟨⟨h, gs, d, k, os⟩, e, e'⟩ := Option.map_eq_some_iff.mp (open_ w)
  obtain ⟨rfl, rfl, rfl, rfl⟩ : h = boot_heap w.params ∧ gs = #[] ∧ d = boot_drawn ∧ k = boot_toks := by simpa using e'
  obtain ⟨z1, z2, z3⟩ : _ ∧ _ ∧ _ := by simpa only [Prod.mk.injEq] using size w
  obtain ⟨s, hs, l1⟩ := Option.map_eq_some_iff.mp (one1 w os)
  have l2 := one2 w os
  have l3 := one3 w os
  rw [hs] at l2 l3
  replace l2 := Option.some.inj l2
  replace l3 := Option.some.inj l3
  have r := topRun_mono (N - (M + 1)) _ _ _ _ (endT_spec hs)
  rw [show M + 1 + (N - (M + 1)) = N by have := Nat.le_of_ble_eq_true le; omega] at r
  have t : topFrom treeTable p w N ⟨boot_heap w.params, #[], boot_drawn, boot_toks, os⟩ = some s.abs := by
    unfold topFrom
    dsimp only
    rw [z1, z2, z3, r]
    show (match staticsOk (importedModules p.main.body) (boot_heap w.params) s.abs.heap && namesBound p s.abs.heap && gensDone s.abs && laidKept (boot_heap w.params) s.abs.heap with | true => _ | false => _) = _
    rw [l1]
  unfold openEnds
  rw [e]
  show (topFrom treeTable p w N _).map _ = _
  rw [t]
  exact congrArg some (Prod.ext l2 l3)
end
theorem open0 : ∀ w : World, (fencedOpening treeTable PW w 7554).map (fun s => (s.heap, s.gens, s.drawn, s.toks)) = some (boot_heap w.params, #[], boot_drawn, boot_toks) :=
  boot_open (p := PW) (by kernel_rfl) (by decide) (fun s => by kernel_rfl)
theorem size0 (w : World) : ((boot_heap w.params).isNs mainGlobals && (#[] : Array GenState).size == 0, (boot_heap w.params).objs.size, (boot_heap w.params).nsMap mainGlobals "__annotations__") = (true, 11, some (.ref 6)) := by kernel_rfl
end
section
theorem rg_KX : True := by
  k_with_none
  
  trivial
open PySem PySem.W PyProof.Rows
set_option maxRecDepth 100000
noncomputable def nthS : List Stmt → Nat → Option Stmt
  | [], _ => none
  | s :: _, 0 => some s
  | _ :: r, n + 1 => nthS r n
noncomputable def partsS : Option Stmt → Option (Arguments × List Stmt × Scope)
  | some (.FunctionDef _ a b _ _ _ s _ _ _) => some (a, b, s)
  | _ => none
noncomputable def bodyS : Option Stmt → List Stmt
  | some (.ClassDef _ _ _ b _ _ _ _ _ _ _) => b
  | _ => []
noncomputable def fnP (p : Program) (i : Nat) : Option Nat → Option (Arguments × List Stmt × Scope)
  | none => partsS (nthS p.main.body i)
  | some k => partsS (nthS (bodyS (nthS p.main.body i)) k)
noncomputable def entsOf (P : Params) : List (Str × Nat × Value) → List DictEntry
  | [] => []
  | e :: r => ⟨PyData.keyHash P e.1, .str e.1 e.2.1, e.2.2⟩ :: entsOf P r
noncomputable abbrev fnO {i : Nat} {j : Option Nat} {a : Arguments} {b : List Stmt} {c : Scope} (name qual : Str) (dV kV doc pm : Value) (an : Option Addr) (cd ct : Value) (_ : fnP PW i j = some (a, b, c)) : Obj :=
  { cls := .type "function", data := .func (fnOf name qual a b c dV kV doc pm an cd ct) }

noncomputable def o0 (P : Params) : Obj := ⟨(.type "dict"), none, (.dict (entsOf P (("__name__", 1, (.str "builtins" 160)) :: ("__doc__", 2, (.builtin "builtins.__doc__:str#opaque")) :: ("__package__", 3, (.builtin "builtins.__package__:str#opaque")) :: ("__loader__", 4, (.builtin "builtins.__loader__:shared#opaque")) :: ("__spec__", 5, (.builtin "builtins.__spec__#opaque")) :: ("__build_class__", 6, (.builtin "__build_class__")) :: ("__import__", 7, (.builtin "__import__")) :: ("abs", 8, (.builtin "abs")) :: ("all", 9, (.builtin "all")) :: ("any", 10, (.builtin "any")) :: ("ascii", 11, (.builtin "ascii")) :: ("bin", 12, (.builtin "bin")) :: ("breakpoint", 13, (.builtin "breakpoint")) :: ("callable", 14, (.builtin "callable")) :: ("chr", 15, (.builtin "chr")) :: ("compile", 16, (.builtin "compile")) :: ("delattr", 17, (.builtin "delattr")) :: ("dir", 18, (.builtin "dir")) :: ("divmod", 19, (.builtin "divmod")) :: ("eval", 20, (.builtin "eval")) :: ("exec", 21, (.builtin "exec")) :: ("format", 22, (.builtin "format")) :: ("getattr", 23, (.builtin "getattr")) :: ("globals", 24, (.builtin "globals")) :: ("hasattr", 25, (.builtin "hasattr")) :: ("hash", 26, (.builtin "hash")) :: ("hex", 27, (.builtin "hex")) :: ("id", 28, (.builtin "id")) :: ("input", 29, (.builtin "input")) :: ("isinstance", 30, (.builtin "isinstance")) :: ("issubclass", 31, (.builtin "issubclass")) :: ("iter", 32, (.builtin "iter")) :: ("aiter", 33, (.builtin "aiter")) :: ("len", 34, (.builtin "len")) :: ("locals", 35, (.builtin "locals")) :: ("max", 36, (.builtin "max")) :: ("min", 37, (.builtin "min")) :: ("next", 38, (.builtin "next")) :: ("anext", 39, (.builtin "anext")) :: ("oct", 40, (.builtin "oct")) :: ("ord", 41, (.builtin "ord")) :: ("pow", 42, (.builtin "pow")) :: ("print", 43, (.builtin "print")) :: ("repr", 44, (.builtin "repr")) :: ("round", 45, (.builtin "round")) :: ("setattr", 46, (.builtin "setattr")) :: ("sorted", 47, (.builtin "sorted")) :: ("sum", 48, (.builtin "sum")) :: ("vars", 49, (.builtin "vars")) :: ("None", 50, .none) :: ("Ellipsis", 51, .ellipsis) :: ("NotImplemented", 52, .notImplemented) :: ("False", 53, (.bool false)) :: ("True", 54, (.bool true)) :: ("bool", 55, (.type "bool")) :: ("memoryview", 56, (.type "memoryview")) :: ("bytearray", 57, (.type "bytearray")) :: ("bytes", 58, (.type "bytes")) :: ("classmethod", 59, (.type "classmethod")) :: ("complex", 60, (.type "complex")) :: ("dict", 61, (.type "dict")) :: ("enumerate", 62, (.type "enumerate")) :: ("filter", 63, (.type "filter")) :: ("float", 64, (.type "float")) :: ("frozenset", 65, (.type "frozenset")) :: ("property", 66, (.type "property")) :: ("int", 67, (.type "int")) :: ("list", 68, (.type "list")) :: ("map", 69, (.type "map")) :: ("object", 70, (.type "object")) :: ("range", 71, (.type "range")) :: ("reversed", 72, (.type "reversed")) :: ("set", 73, (.type "set")) :: ("slice", 74, (.type "slice")) :: ("staticmethod", 75, (.type "staticmethod")) :: ("str", 76, (.type "str")) :: ("super", 77, (.type "super")) :: ("tuple", 78, (.type "tuple")) :: ("type", 79, (.type "type")) :: ("zip", 80, (.type "zip")) :: ("__debug__", 81, (.bool true)) :: ("BaseException", 82, (.type "BaseException")) :: ("BaseExceptionGroup", 83, (.type "BaseExceptionGroup")) :: ("Exception", 84, (.type "Exception")) :: ("GeneratorExit", 85, (.type "GeneratorExit")) :: ("KeyboardInterrupt", 86, (.type "KeyboardInterrupt")) :: ("SystemExit", 87, (.type "SystemExit")) :: ("ArithmeticError", 88, (.type "ArithmeticError")) :: ("AssertionError", 89, (.type "AssertionError")) :: ("AttributeError", 90, (.type "AttributeError")) :: ("BufferError", 91, (.type "BufferError")) :: ("EOFError", 92, (.type "EOFError")) :: ("ImportError", 93, (.type "ImportError")) :: ("LookupError", 94, (.type "LookupError")) :: ("MemoryError", 95, (.type "MemoryError")) :: ("NameError", 96, (.type "NameError")) :: ("OSError", 97, (.type "OSError")) :: ("ReferenceError", 98, (.type "ReferenceError")) :: ("RuntimeError", 99, (.type "RuntimeError")) :: ("StopAsyncIteration", 100, (.type "StopAsyncIteration")) :: ("StopIteration", 101, (.type "StopIteration")) :: ("SyntaxError", 102, (.type "SyntaxError")) :: ("SystemError", 103, (.type "SystemError")) :: ("TypeError", 104, (.type "TypeError")) :: ("ValueError", 105, (.type "ValueError")) :: ("Warning", 106, (.type "Warning")) :: ("FloatingPointError", 107, (.type "FloatingPointError")) :: ("OverflowError", 108, (.type "OverflowError")) :: ("ZeroDivisionError", 109, (.type "ZeroDivisionError")) :: ("BytesWarning", 110, (.type "BytesWarning")) :: ("DeprecationWarning", 111, (.type "DeprecationWarning")) :: ("EncodingWarning", 112, (.type "EncodingWarning")) :: ("FutureWarning", 113, (.type "FutureWarning")) :: ("ImportWarning", 114, (.type "ImportWarning")) :: ("PendingDeprecationWarning", 115, (.type "PendingDeprecationWarning")) :: ("ResourceWarning", 116, (.type "ResourceWarning")) :: ("RuntimeWarning", 117, (.type "RuntimeWarning")) :: ("SyntaxWarning", 118, (.type "SyntaxWarning")) :: ("UnicodeWarning", 119, (.type "UnicodeWarning")) :: ("UserWarning", 120, (.type "UserWarning")) :: ("BlockingIOError", 121, (.type "BlockingIOError")) :: ("ChildProcessError", 122, (.type "ChildProcessError")) :: ("ConnectionError", 123, (.type "ConnectionError")) :: ("FileExistsError", 124, (.type "FileExistsError")) :: ("FileNotFoundError", 125, (.type "FileNotFoundError")) :: ("InterruptedError", 126, (.type "InterruptedError")) :: ("IsADirectoryError", 127, (.type "IsADirectoryError")) :: ("NotADirectoryError", 128, (.type "NotADirectoryError")) :: ("PermissionError", 129, (.type "PermissionError")) :: ("ProcessLookupError", 130, (.type "ProcessLookupError")) :: ("TimeoutError", 131, (.type "TimeoutError")) :: ("IndentationError", 132, (.type "IndentationError")) :: ("_IncompleteInputError", 133, (.type "_IncompleteInputError")) :: ("IndexError", 134, (.type "IndexError")) :: ("KeyError", 135, (.type "KeyError")) :: ("ModuleNotFoundError", 136, (.type "ModuleNotFoundError")) :: ("NotImplementedError", 137, (.type "NotImplementedError")) :: ("PythonFinalizationError", 138, (.type "PythonFinalizationError")) :: ("RecursionError", 139, (.type "RecursionError")) :: ("UnboundLocalError", 140, (.type "UnboundLocalError")) :: ("UnicodeError", 141, (.type "UnicodeError")) :: ("BrokenPipeError", 142, (.type "BrokenPipeError")) :: ("ConnectionAbortedError", 143, (.type "ConnectionAbortedError")) :: ("ConnectionRefusedError", 144, (.type "ConnectionRefusedError")) :: ("ConnectionResetError", 145, (.type "ConnectionResetError")) :: ("TabError", 146, (.type "TabError")) :: ("UnicodeDecodeError", 147, (.type "UnicodeDecodeError")) :: ("UnicodeEncodeError", 148, (.type "UnicodeEncodeError")) :: ("UnicodeTranslateError", 149, (.type "UnicodeTranslateError")) :: ("ExceptionGroup", 150, (.type "ExceptionGroup")) :: ("EnvironmentError", 151, (.type "OSError")) :: ("IOError", 152, (.type "OSError")) :: ("open", 153, (.builtin "open")) :: ("quit", 154, (.builtin "builtins.quit#opaque")) :: ("exit", 155, (.builtin "builtins.exit#opaque")) :: ("copyright", 156, (.builtin "builtins.copyright#opaque")) :: ("credits", 157, (.builtin "builtins.credits#opaque")) :: ("license", 158, (.builtin "builtins.license#opaque")) :: ("help", 159, (.builtin "builtins.help#opaque")) :: [])).toArray 159), #[]⟩
noncomputable def o1 (P : Params) : Obj := ⟨(.type "dict"), none, (.dict (entsOf P (("builtins", 162, (.ref 4)) :: ("__main__", 163, (.ref 5)) :: [])).toArray 2), #[]⟩
noncomputable def o2 (P : Params) : Obj := ⟨.none, none, (.dict (entsOf P (("type.__subclasses__.Exception.0", 232, (.int (46) 0)) :: ("type.__subclasses__.Exception.n", 233, (.int (1) 0)) :: [])).toArray 2), #[]⟩
noncomputable def o3 (P : Params) : Obj := ⟨(.type "dict"), none, (.dict (entsOf P (("__name__", 165, (.str "law_nn0125_01" 752)) :: ("__doc__", 166, .none) :: ("__package__", 167, .none) :: ("__loader__", 168, (.builtin "__main__.__loader__#opaque")) :: ("__spec__", 169, .none) :: ("__annotations__", 170, (.ref 6)) :: ("__builtins__", 171, (.ref 4)) :: ("__file__", 173, (.str "/claim/cut.py" 172)) :: ("__cached__", 174, .none) :: ("_wall", 193, (.ref 21)) :: ("PaperError", 235, (.ref 46)) :: ("TreeFault", 251, (.ref 59)) :: ("Decimal", 370, (.ref 155)) :: ("sign_text", 377, (.ref 166)) :: ("sign_of", 384, (.ref 173)) :: ("decimal_of", 391, (.ref 180)) :: ("at_one_scale", 402, (.ref 187)) :: ("least", 411, (.ref 194)) :: ("greatest", 420, (.ref 201)) :: ("MOST_HOPS", 424, (.int (30) 423)) :: ("Name", 453, (.ref 218)) :: ("String", 484, (.ref 240)) :: ("Stream", 515, (.ref 261)) :: ("Reference", 553, (.ref 289)) :: ("kind_of", 560, (.ref 300)) :: ("is_number", 567, (.ref 307)) :: ("told_plain", 575, (.ref 314)) :: ("told", 581, (.ref 319)) :: ("told_objects", 582, (.ref 319)) :: ("Lookup", 634, (.ref 351)) :: ("Shelf", 697, (.ref 405)) :: ("Page", 730, (.ref 424)) :: ("four_numbers", 736, (.ref 433)) :: ("box", 742, (.ref 438)) :: ("rotation", 751, (.ref 445)) :: ("_law_pen", 759, (.ref 450)) :: ("_law_draw", 772, (.ref 457)) :: ("_law_pick", 780, (.ref 464)) :: ("_law_number", 793, (.ref 471)) :: ("_law_box", 799, (.ref 476)) :: ("_law_heard", 806, (.ref 483)) :: ("_law_thousandths", 812, (.ref 488)) :: ("_law_cut", 821, (.ref 495)) :: ("_law_box_holds", 835, (.ref 502)) :: ("_law_turn_holds", 849, (.ref 509)) :: ("law", 859, (.ref 516)) :: [])).toArray 46), #[]⟩
noncomputable def o6 (_ : Params) : Obj := ⟨(.type "dict"), none, (.dict #[] 0), #[]⟩
noncomputable def o11 (_ : Params) : Obj := ⟨(.type "tuple"), none, (.seq #[] 0), #[]⟩
noncomputable def o13 (_ : Params) : Obj := ⟨(.type "code"), none, (.fields #[(.str "<module>" 182), (.str "<module>" 183), (.str "/claim/cut.py" 184), (.int (1) 0), (.int (0) 0), (.int (0) 0), (.int (0) 0), (.int (0) 0), (.ref 11), (.bool false), (.int (181) 0), (.ref 12), .none, .none, .none, .none, (.int (185) 0), (.int (1) 0), (.str "/claim/cut.py" 186)]), #[]⟩
noncomputable def o14 (_ : Params) : Obj := ⟨(.type "frame"), none, .plain, #[(some (.ref 13)), (some (.ref 3)), (some (.ref 3)), none, (some (.str "__main__" 164)), none, (some (.ref 0))]⟩
noncomputable def o15 (_ : Params) : Obj := ⟨(.type "tuple"), none, (.seq #[] 0), #[]⟩
noncomputable def o17 (_ : Params) : Obj := ⟨(.type "tuple"), none, (.seq #[(.str "k" 190)] 0), #[]⟩
noncomputable def o18 (_ : Params) : Obj := ⟨(.type "tuple"), none, (.seq #[] 0), #[]⟩
noncomputable def o20 (_ : Params) : Obj := ⟨(.type "code"), none, (.fields #[(.str "_wall" 187), (.str "_wall" 188), (.str "/claim/cut.py" 189), (.int (1) 0), (.int (1) 0), (.int (0) 0), (.int (0) 0), (.int (3) 0), (.ref 15), (.bool true), (.int (181) 0), (.ref 16), .none, (.ref 17), (.ref 18), (.ref 19), (.int (191) 0), (.int (1) 0), (.str "/claim/cut.py" 192)]), #[]⟩
noncomputable def o21 (_ : Params) : Obj := fnO "_wall" "_wall" .none .none .none (.str "__main__" 164) none (.ref 20) .none (rfl : fnP PW 0 none = some (_, _, _))
noncomputable def o22 (_ : Params) : Obj := ⟨(.type "tuple"), none, (.seq #[(.type "Exception")] 0), #[]⟩
noncomputable def o29 (_ : Params) : Obj := ⟨(.type "tuple"), none, (.seq #[(.int (-1) 209)] 0), #[]⟩
noncomputable def o30 (_ : Params) : Obj := ⟨(.type "tuple"), none, (.seq #[] 0), #[]⟩
noncomputable def o32 (_ : Params) : Obj := ⟨(.type "tuple"), none, (.seq #[(.str "self" 213), (.str "what" 214), (.str "at" 215)] 0), #[]⟩
noncomputable def o33 (_ : Params) : Obj := ⟨(.type "tuple"), none, (.seq #[] 0), #[]⟩
noncomputable def o35 (_ : Params) : Obj := ⟨(.type "code"), none, (.fields #[(.str "__init__" 210), (.str "PaperError.__init__" 211), (.str "/claim/cut.py" 212), (.int (7) 0), (.int (3) 0), (.int (0) 0), (.int (0) 0), (.int (3) 0), (.ref 30), (.bool true), (.int (181) 0), (.ref 31), .none, (.ref 32), (.ref 33), (.ref 34), (.int (216) 0), (.int (7) 0), (.str "/claim/cut.py" 217)]), #[]⟩
noncomputable def o36 (_ : Params) : Obj := fnO "__init__" "PaperError.__init__" (.ref 29) .none .none (.str "paperhold.errors" 194) none (.ref 35) .none (rfl : fnP PW 2 (some 0) = some (_, _, _))
noncomputable def o37 (_ : Params) : Obj := ⟨(.type "tuple"), none, (.seq #[] 0), #[]⟩
noncomputable def o39 (_ : Params) : Obj := ⟨(.type "tuple"), none, (.seq #[(.str "self" 222)] 0), #[]⟩
noncomputable def o40 (_ : Params) : Obj := ⟨(.type "tuple"), none, (.seq #[] 0), #[]⟩
noncomputable def o42 (_ : Params) : Obj := ⟨(.type "code"), none, (.fields #[(.str "told" 219), (.str "PaperError.told" 220), (.str "/claim/cut.py" 221), (.int (12) 0), (.int (1) 0), (.int (0) 0), (.int (0) 0), (.int (3) 0), (.ref 37), (.bool true), (.int (181) 0), (.ref 38), .none, (.ref 39), (.ref 40), (.ref 41), (.int (223) 0), (.int (12) 0), (.str "/claim/cut.py" 224)]), #[]⟩
noncomputable def o43 (_ : Params) : Obj := fnO "told" "PaperError.told" .none .none .none (.str "paperhold.errors" 194) none (.ref 42) .none (rfl : fnP PW 2 (some 1) = some (_, _, _))
noncomputable def o44 (_ : Params) : Obj := ⟨(.type "tuple"), none, (.seq #[(.str "at" 226), (.str "what" 227)] 0), #[]⟩
noncomputable def o45 (P : Params) : Obj := ⟨(.type "dict"), none, (.dict (entsOf P (("__module__", 203, (.str "paperhold.errors" 194)) :: ("__firstlineno__", 207, (.int (5) 206)) :: ("__init__", 218, (.ref 36)) :: ("told", 225, (.ref 43)) :: ("__static_attributes__", 228, (.ref 44)) :: ("__weakref__", 230, (.ref 47)) :: ("__doc__", 231, .none) :: [])).toArray 3), #[]⟩
noncomputable def o46 (_ : Params) : Obj := ⟨(.type "type"), none, (.cls ⟨"PaperError", [(.type "Exception")], [(.ref 46), (.type "Exception"), (.type "BaseException"), (.type "object")], 45, "PaperError", true, [], [(.ref 59)], false, none, false⟩), #[(some (.ref 22)), none, (some (.str "PaperError" 196)), (some (.str "PaperError" 204)), (some (.builtin "Exception.__new__")), (some (.bool true))]⟩
noncomputable def o47 (_ : Params) : Obj := ⟨(.type "getset_descriptor"), none, (.fields #[(.str "__weakref__" 229), (.ref 46), (.builtin "ExceptionGroup.__weakref__"), .none]), #[]⟩
noncomputable def o50 (_ : Params) : Obj := ⟨(.type "tuple"), none, (.seq #[(.ref 46)] 0), #[]⟩
noncomputable def o57 (_ : Params) : Obj := ⟨(.type "tuple"), none, (.seq #[] 0), #[]⟩
noncomputable def o58 (P : Params) : Obj := ⟨(.type "dict"), none, (.dict (entsOf P (("__module__", 243, (.str "paperhold.errors" 194)) :: ("__firstlineno__", 247, (.int (14) 246)) :: ("__static_attributes__", 248, (.ref 57)) :: ("__doc__", 249, .none) :: [])).toArray 2), #[]⟩
noncomputable def o59 (_ : Params) : Obj := ⟨(.type "type"), none, (.cls ⟨"TreeFault", [(.ref 46)], [(.ref 59), (.ref 46), (.type "Exception"), (.type "BaseException"), (.type "object")], 58, "TreeFault", true, [], [], false, none, false⟩), #[(some (.ref 50)), none, (some (.str "TreeFault" 236)), (some (.str "TreeFault" 244)), (some (.builtin "Exception.__new__")), (some (.bool true))]⟩
noncomputable def o69 (_ : Params) : Obj := ⟨(.type "tuple"), none, (.seq #[] 0), #[]⟩
noncomputable def o71 (_ : Params) : Obj := ⟨(.type "tuple"), none, (.seq #[(.str "self" 269), (.str "top" 270), (.str "places" 271)] 0), #[]⟩
noncomputable def o72 (_ : Params) : Obj := ⟨(.type "tuple"), none, (.seq #[] 0), #[]⟩
noncomputable def o74 (_ : Params) : Obj := ⟨(.type "code"), none, (.fields #[(.str "__init__" 266), (.str "Decimal.__init__" 267), (.str "/claim/cut.py" 268), (.int (19) 0), (.int (3) 0), (.int (0) 0), (.int (0) 0), (.int (3) 0), (.ref 69), (.bool true), (.int (181) 0), (.ref 70), .none, (.ref 71), (.ref 72), (.ref 73), (.int (272) 0), (.int (19) 0), (.str "/claim/cut.py" 273)]), #[]⟩
noncomputable def o75 (_ : Params) : Obj := fnO "__init__" "Decimal.__init__" .none .none .none (.str "paperhold.decimals" 252) none (.ref 74) .none (rfl : fnP PW 5 (some 0) = some (_, _, _))
noncomputable def o76 (_ : Params) : Obj := ⟨(.type "tuple"), none, (.seq #[] 0), #[]⟩
noncomputable def o78 (_ : Params) : Obj := ⟨(.type "tuple"), none, (.seq #[(.str "self" 278), (.str "other" 279)] 0), #[]⟩
noncomputable def o79 (_ : Params) : Obj := ⟨(.type "tuple"), none, (.seq #[] 0), #[]⟩
noncomputable def o81 (_ : Params) : Obj := ⟨(.type "code"), none, (.fields #[(.str "plus" 275), (.str "Decimal.plus" 276), (.str "/claim/cut.py" 277), (.int (26) 0), (.int (2) 0), (.int (0) 0), (.int (0) 0), (.int (3) 0), (.ref 76), (.bool true), (.int (181) 0), (.ref 77), .none, (.ref 78), (.ref 79), (.ref 80), (.int (280) 0), (.int (26) 0), (.str "/claim/cut.py" 281)]), #[]⟩
noncomputable def o82 (_ : Params) : Obj := fnO "plus" "Decimal.plus" .none .none .none (.str "paperhold.decimals" 252) none (.ref 81) .none (rfl : fnP PW 5 (some 1) = some (_, _, _))
noncomputable def o83 (_ : Params) : Obj := ⟨(.type "tuple"), none, (.seq #[] 0), #[]⟩
noncomputable def o85 (_ : Params) : Obj := ⟨(.type "tuple"), none, (.seq #[(.str "self" 286), (.str "other" 287)] 0), #[]⟩
noncomputable def o86 (_ : Params) : Obj := ⟨(.type "tuple"), none, (.seq #[] 0), #[]⟩
noncomputable def o88 (_ : Params) : Obj := ⟨(.type "code"), none, (.fields #[(.str "minus" 283), (.str "Decimal.minus" 284), (.str "/claim/cut.py" 285), (.int (29) 0), (.int (2) 0), (.int (0) 0), (.int (0) 0), (.int (3) 0), (.ref 83), (.bool true), (.int (181) 0), (.ref 84), .none, (.ref 85), (.ref 86), (.ref 87), (.int (288) 0), (.int (29) 0), (.str "/claim/cut.py" 289)]), #[]⟩
noncomputable def o89 (_ : Params) : Obj := fnO "minus" "Decimal.minus" .none .none .none (.str "paperhold.decimals" 252) none (.ref 88) .none (rfl : fnP PW 5 (some 2) = some (_, _, _))
noncomputable def o90 (_ : Params) : Obj := ⟨(.type "tuple"), none, (.seq #[] 0), #[]⟩
noncomputable def o92 (_ : Params) : Obj := ⟨(.type "tuple"), none, (.seq #[(.str "self" 294), (.str "other" 295)] 0), #[]⟩
noncomputable def o93 (_ : Params) : Obj := ⟨(.type "tuple"), none, (.seq #[] 0), #[]⟩
noncomputable def o95 (_ : Params) : Obj := ⟨(.type "code"), none, (.fields #[(.str "times" 291), (.str "Decimal.times" 292), (.str "/claim/cut.py" 293), (.int (32) 0), (.int (2) 0), (.int (0) 0), (.int (0) 0), (.int (3) 0), (.ref 90), (.bool true), (.int (181) 0), (.ref 91), .none, (.ref 92), (.ref 93), (.ref 94), (.int (296) 0), (.int (32) 0), (.str "/claim/cut.py" 297)]), #[]⟩
noncomputable def o96 (_ : Params) : Obj := fnO "times" "Decimal.times" .none .none .none (.str "paperhold.decimals" 252) none (.ref 95) .none (rfl : fnP PW 5 (some 3) = some (_, _, _))
noncomputable def o97 (_ : Params) : Obj := ⟨(.type "tuple"), none, (.seq #[] 0), #[]⟩
noncomputable def o99 (_ : Params) : Obj := ⟨(.type "tuple"), none, (.seq #[(.str "self" 302)] 0), #[]⟩
noncomputable def o100 (_ : Params) : Obj := ⟨(.type "tuple"), none, (.seq #[] 0), #[]⟩
noncomputable def o102 (_ : Params) : Obj := ⟨(.type "code"), none, (.fields #[(.str "negated" 299), (.str "Decimal.negated" 300), (.str "/claim/cut.py" 301), (.int (35) 0), (.int (1) 0), (.int (0) 0), (.int (0) 0), (.int (3) 0), (.ref 97), (.bool true), (.int (181) 0), (.ref 98), .none, (.ref 99), (.ref 100), (.ref 101), (.int (303) 0), (.int (35) 0), (.str "/claim/cut.py" 304)]), #[]⟩
noncomputable def o103 (_ : Params) : Obj := fnO "negated" "Decimal.negated" .none .none .none (.str "paperhold.decimals" 252) none (.ref 102) .none (rfl : fnP PW 5 (some 4) = some (_, _, _))
noncomputable def o104 (_ : Params) : Obj := ⟨(.type "tuple"), none, (.seq #[] 0), #[]⟩
noncomputable def o106 (_ : Params) : Obj := ⟨(.type "tuple"), none, (.seq #[(.str "self" 309), (.str "other" 310), (.str "one" 311), (.str "two" 312), (.str "places" 313)] 0), #[]⟩
noncomputable def o107 (_ : Params) : Obj := ⟨(.type "tuple"), none, (.seq #[] 0), #[]⟩
noncomputable def o109 (_ : Params) : Obj := ⟨(.type "code"), none, (.fields #[(.str "compared" 306), (.str "Decimal.compared" 307), (.str "/claim/cut.py" 308), (.int (38) 0), (.int (2) 0), (.int (0) 0), (.int (0) 0), (.int (3) 0), (.ref 104), (.bool true), (.int (181) 0), (.ref 105), .none, (.ref 106), (.ref 107), (.ref 108), (.int (314) 0), (.int (38) 0), (.str "/claim/cut.py" 315)]), #[]⟩
noncomputable def o110 (_ : Params) : Obj := fnO "compared" "Decimal.compared" .none .none .none (.str "paperhold.decimals" 252) none (.ref 109) .none (rfl : fnP PW 5 (some 5) = some (_, _, _))
noncomputable def o111 (_ : Params) : Obj := ⟨(.type "tuple"), none, (.seq #[] 0), #[]⟩
noncomputable def o113 (_ : Params) : Obj := ⟨(.type "tuple"), none, (.seq #[(.str "self" 320)] 0), #[]⟩
noncomputable def o114 (_ : Params) : Obj := ⟨(.type "tuple"), none, (.seq #[] 0), #[]⟩
noncomputable def o116 (_ : Params) : Obj := ⟨(.type "code"), none, (.fields #[(.str "is_whole" 317), (.str "Decimal.is_whole" 318), (.str "/claim/cut.py" 319), (.int (42) 0), (.int (1) 0), (.int (0) 0), (.int (0) 0), (.int (3) 0), (.ref 111), (.bool true), (.int (181) 0), (.ref 112), .none, (.ref 113), (.ref 114), (.ref 115), (.int (321) 0), (.int (42) 0), (.str "/claim/cut.py" 322)]), #[]⟩
noncomputable def o117 (_ : Params) : Obj := fnO "is_whole" "Decimal.is_whole" .none .none .none (.str "paperhold.decimals" 252) none (.ref 116) .none (rfl : fnP PW 5 (some 6) = some (_, _, _))
noncomputable def o118 (_ : Params) : Obj := ⟨(.type "tuple"), none, (.seq #[] 0), #[]⟩
noncomputable def o120 (_ : Params) : Obj := ⟨(.type "tuple"), none, (.seq #[(.str "self" 327)] 0), #[]⟩
noncomputable def o121 (_ : Params) : Obj := ⟨(.type "tuple"), none, (.seq #[] 0), #[]⟩
noncomputable def o123 (_ : Params) : Obj := ⟨(.type "code"), none, (.fields #[(.str "floor" 324), (.str "Decimal.floor" 325), (.str "/claim/cut.py" 326), (.int (45) 0), (.int (1) 0), (.int (0) 0), (.int (0) 0), (.int (3) 0), (.ref 118), (.bool true), (.int (181) 0), (.ref 119), .none, (.ref 120), (.ref 121), (.ref 122), (.int (328) 0), (.int (45) 0), (.str "/claim/cut.py" 329)]), #[]⟩
noncomputable def o124 (_ : Params) : Obj := fnO "floor" "Decimal.floor" .none .none .none (.str "paperhold.decimals" 252) none (.ref 123) .none (rfl : fnP PW 5 (some 7) = some (_, _, _))
noncomputable def o125 (_ : Params) : Obj := ⟨(.type "tuple"), none, (.seq #[] 0), #[]⟩
noncomputable def o127 (_ : Params) : Obj := ⟨(.type "tuple"), none, (.seq #[(.str "self" 334), (.str "places" 335)] 0), #[]⟩
noncomputable def o128 (_ : Params) : Obj := ⟨(.type "tuple"), none, (.seq #[] 0), #[]⟩
noncomputable def o130 (_ : Params) : Obj := ⟨(.type "code"), none, (.fields #[(.str "rounded" 331), (.str "Decimal.rounded" 332), (.str "/claim/cut.py" 333), (.int (48) 0), (.int (2) 0), (.int (0) 0), (.int (0) 0), (.int (3) 0), (.ref 125), (.bool true), (.int (181) 0), (.ref 126), .none, (.ref 127), (.ref 128), (.ref 129), (.int (336) 0), (.int (48) 0), (.str "/claim/cut.py" 337)]), #[]⟩
noncomputable def o131 (_ : Params) : Obj := fnO "rounded" "Decimal.rounded" .none .none .none (.str "paperhold.decimals" 252) none (.ref 130) .none (rfl : fnP PW 5 (some 8) = some (_, _, _))
noncomputable def o132 (_ : Params) : Obj := ⟨(.type "tuple"), none, (.seq #[] 0), #[]⟩
noncomputable def o134 (_ : Params) : Obj := ⟨(.type "tuple"), none, (.seq #[(.str "self" 342)] 0), #[]⟩
noncomputable def o135 (_ : Params) : Obj := ⟨(.type "tuple"), none, (.seq #[] 0), #[]⟩
noncomputable def o137 (_ : Params) : Obj := ⟨(.type "code"), none, (.fields #[(.str "told" 339), (.str "Decimal.told" 340), (.str "/claim/cut.py" 341), (.int (51) 0), (.int (1) 0), (.int (0) 0), (.int (0) 0), (.int (3) 0), (.ref 132), (.bool true), (.int (181) 0), (.ref 133), .none, (.ref 134), (.ref 135), (.ref 136), (.int (343) 0), (.int (51) 0), (.str "/claim/cut.py" 344)]), #[]⟩
noncomputable def o138 (_ : Params) : Obj := fnO "told" "Decimal.told" .none .none .none (.str "paperhold.decimals" 252) none (.ref 137) .none (rfl : fnP PW 5 (some 9) = some (_, _, _))
noncomputable def o139 (_ : Params) : Obj := ⟨(.type "tuple"), none, (.seq #[] 0), #[]⟩
noncomputable def o141 (_ : Params) : Obj := ⟨(.type "tuple"), none, (.seq #[(.str "self" 349), (.str "numerals" 350)] 0), #[]⟩
noncomputable def o142 (_ : Params) : Obj := ⟨(.type "tuple"), none, (.seq #[] 0), #[]⟩
noncomputable def o144 (_ : Params) : Obj := ⟨(.type "code"), none, (.fields #[(.str "text" 346), (.str "Decimal.text" 347), (.str "/claim/cut.py" 348), (.int (54) 0), (.int (1) 0), (.int (0) 0), (.int (0) 0), (.int (3) 0), (.ref 139), (.bool true), (.int (181) 0), (.ref 140), .none, (.ref 141), (.ref 142), (.ref 143), (.int (351) 0), (.int (54) 0), (.str "/claim/cut.py" 352)]), #[]⟩
noncomputable def o145 (_ : Params) : Obj := fnO "text" "Decimal.text" .none .none .none (.str "paperhold.decimals" 252) none (.ref 144) .none (rfl : fnP PW 5 (some 10) = some (_, _, _))
noncomputable def o146 (_ : Params) : Obj := ⟨(.type "tuple"), none, (.seq #[] 0), #[]⟩
noncomputable def o148 (_ : Params) : Obj := ⟨(.type "tuple"), none, (.seq #[(.str "self" 357)] 0), #[]⟩
noncomputable def o149 (_ : Params) : Obj := ⟨(.type "tuple"), none, (.seq #[] 0), #[]⟩
noncomputable def o151 (_ : Params) : Obj := ⟨(.type "code"), none, (.fields #[(.str "least_text" 354), (.str "Decimal.least_text" 355), (.str "/claim/cut.py" 356), (.int (61) 0), (.int (1) 0), (.int (0) 0), (.int (0) 0), (.int (3) 0), (.ref 146), (.bool true), (.int (181) 0), (.ref 147), .none, (.ref 148), (.ref 149), (.ref 150), (.int (358) 0), (.int (61) 0), (.str "/claim/cut.py" 359)]), #[]⟩
noncomputable def o152 (_ : Params) : Obj := fnO "least_text" "Decimal.least_text" .none .none .none (.str "paperhold.decimals" 252) none (.ref 151) .none (rfl : fnP PW 5 (some 11) = some (_, _, _))
noncomputable def o153 (_ : Params) : Obj := ⟨(.type "tuple"), none, (.seq #[(.str "places" 361), (.str "top" 362)] 0), #[]⟩
noncomputable def o154 (P : Params) : Obj := ⟨(.type "dict"), none, (.dict (entsOf P (("__module__", 261, (.str "paperhold.decimals" 252)) :: ("__firstlineno__", 265, (.int (17) 264)) :: ("__init__", 274, (.ref 75)) :: ("plus", 282, (.ref 82)) :: ("minus", 290, (.ref 89)) :: ("times", 298, (.ref 96)) :: ("negated", 305, (.ref 103)) :: ("compared", 316, (.ref 110)) :: ("is_whole", 323, (.ref 117)) :: ("floor", 330, (.ref 124)) :: ("rounded", 338, (.ref 131)) :: ("told", 345, (.ref 138)) :: ("text", 353, (.ref 145)) :: ("least_text", 360, (.ref 152)) :: ("__static_attributes__", 363, (.ref 153)) :: ("__dict__", 365, (.ref 156)) :: ("__weakref__", 367, (.ref 157)) :: ("__doc__", 368, .none) :: [])).toArray 4), #[]⟩
noncomputable def o155 (_ : Params) : Obj := ⟨(.type "type"), none, (.cls ⟨"Decimal", [(.type "object")], [(.ref 155), (.type "object")], 154, "Decimal", true, [], [], false, none, false⟩), #[none, none, (some (.str "Decimal" 254)), (some (.str "Decimal" 262)), (some (.builtin "object.__new__")), (some (.bool true))]⟩
noncomputable def o156 (_ : Params) : Obj := ⟨(.type "getset_descriptor"), none, (.fields #[(.str "__dict__" 364), (.ref 155), (.builtin "function.__dict__"), (.builtin "function.__dict__#set")]), #[]⟩
noncomputable def o157 (_ : Params) : Obj := ⟨(.type "getset_descriptor"), none, (.fields #[(.str "__weakref__" 366), (.ref 155), (.builtin "ExceptionGroup.__weakref__"), .none]), #[]⟩
noncomputable def o160 (_ : Params) : Obj := ⟨(.type "tuple"), none, (.seq #[] 0), #[]⟩
noncomputable def o162 (_ : Params) : Obj := ⟨(.type "tuple"), none, (.seq #[(.str "number" 374)] 0), #[]⟩
noncomputable def o163 (_ : Params) : Obj := ⟨(.type "tuple"), none, (.seq #[] 0), #[]⟩
noncomputable def o165 (_ : Params) : Obj := ⟨(.type "code"), none, (.fields #[(.str "sign_text" 371), (.str "sign_text" 372), (.str "/claim/cut.py" 373), (.int (63) 0), (.int (1) 0), (.int (0) 0), (.int (0) 0), (.int (3) 0), (.ref 160), (.bool true), (.int (181) 0), (.ref 161), .none, (.ref 162), (.ref 163), (.ref 164), (.int (375) 0), (.int (63) 0), (.str "/claim/cut.py" 376)]), #[]⟩
noncomputable def o166 (_ : Params) : Obj := fnO "sign_text" "sign_text" .none .none .none (.str "paperhold.decimals" 252) none (.ref 165) .none (rfl : fnP PW 6 none = some (_, _, _))
noncomputable def o167 (_ : Params) : Obj := ⟨(.type "tuple"), none, (.seq #[] 0), #[]⟩
noncomputable def o169 (_ : Params) : Obj := ⟨(.type "tuple"), none, (.seq #[(.str "number" 381)] 0), #[]⟩
noncomputable def o170 (_ : Params) : Obj := ⟨(.type "tuple"), none, (.seq #[] 0), #[]⟩
noncomputable def o172 (_ : Params) : Obj := ⟨(.type "code"), none, (.fields #[(.str "sign_of" 378), (.str "sign_of" 379), (.str "/claim/cut.py" 380), (.int (65) 0), (.int (1) 0), (.int (0) 0), (.int (0) 0), (.int (3) 0), (.ref 167), (.bool true), (.int (181) 0), (.ref 168), .none, (.ref 169), (.ref 170), (.ref 171), (.int (382) 0), (.int (65) 0), (.str "/claim/cut.py" 383)]), #[]⟩
noncomputable def o173 (_ : Params) : Obj := fnO "sign_of" "sign_of" .none .none .none (.str "paperhold.decimals" 252) none (.ref 172) .none (rfl : fnP PW 7 none = some (_, _, _))
noncomputable def o174 (_ : Params) : Obj := ⟨(.type "tuple"), none, (.seq #[] 0), #[]⟩
noncomputable def o176 (_ : Params) : Obj := ⟨(.type "tuple"), none, (.seq #[(.str "value" 388)] 0), #[]⟩
noncomputable def o177 (_ : Params) : Obj := ⟨(.type "tuple"), none, (.seq #[] 0), #[]⟩
noncomputable def o179 (_ : Params) : Obj := ⟨(.type "code"), none, (.fields #[(.str "decimal_of" 385), (.str "decimal_of" 386), (.str "/claim/cut.py" 387), (.int (69) 0), (.int (1) 0), (.int (0) 0), (.int (0) 0), (.int (3) 0), (.ref 174), (.bool true), (.int (181) 0), (.ref 175), .none, (.ref 176), (.ref 177), (.ref 178), (.int (389) 0), (.int (69) 0), (.str "/claim/cut.py" 390)]), #[]⟩
noncomputable def o180 (_ : Params) : Obj := fnO "decimal_of" "decimal_of" .none .none .none (.str "paperhold.decimals" 252) none (.ref 179) .none (rfl : fnP PW 8 none = some (_, _, _))
noncomputable def o181 (_ : Params) : Obj := ⟨(.type "tuple"), none, (.seq #[] 0), #[]⟩
noncomputable def o183 (_ : Params) : Obj := ⟨(.type "tuple"), none, (.seq #[(.str "one" 395), (.str "other" 396), (.str "first" 397), (.str "second" 398), (.str "places" 399)] 0), #[]⟩
noncomputable def o184 (_ : Params) : Obj := ⟨(.type "tuple"), none, (.seq #[] 0), #[]⟩
noncomputable def o186 (_ : Params) : Obj := ⟨(.type "code"), none, (.fields #[(.str "at_one_scale" 392), (.str "at_one_scale" 393), (.str "/claim/cut.py" 394), (.int (75) 0), (.int (2) 0), (.int (0) 0), (.int (0) 0), (.int (3) 0), (.ref 181), (.bool true), (.int (181) 0), (.ref 182), .none, (.ref 183), (.ref 184), (.ref 185), (.int (400) 0), (.int (75) 0), (.str "/claim/cut.py" 401)]), #[]⟩
noncomputable def o187 (_ : Params) : Obj := fnO "at_one_scale" "at_one_scale" .none .none .none (.str "paperhold.decimals" 252) none (.ref 186) .none (rfl : fnP PW 9 none = some (_, _, _))
noncomputable def o188 (_ : Params) : Obj := ⟨(.type "tuple"), none, (.seq #[] 0), #[]⟩
noncomputable def o190 (_ : Params) : Obj := ⟨(.type "tuple"), none, (.seq #[(.str "values" 406), (.str "best" 407), (.str "value" 408)] 0), #[]⟩
noncomputable def o191 (_ : Params) : Obj := ⟨(.type "tuple"), none, (.seq #[] 0), #[]⟩
noncomputable def o193 (_ : Params) : Obj := ⟨(.type "code"), none, (.fields #[(.str "least" 403), (.str "least" 404), (.str "/claim/cut.py" 405), (.int (80) 0), (.int (1) 0), (.int (0) 0), (.int (0) 0), (.int (3) 0), (.ref 188), (.bool true), (.int (181) 0), (.ref 189), .none, (.ref 190), (.ref 191), (.ref 192), (.int (409) 0), (.int (80) 0), (.str "/claim/cut.py" 410)]), #[]⟩
noncomputable def o194 (_ : Params) : Obj := fnO "least" "least" .none .none .none (.str "paperhold.decimals" 252) none (.ref 193) .none (rfl : fnP PW 10 none = some (_, _, _))
noncomputable def o195 (_ : Params) : Obj := ⟨(.type "tuple"), none, (.seq #[] 0), #[]⟩
noncomputable def o197 (_ : Params) : Obj := ⟨(.type "tuple"), none, (.seq #[(.str "values" 415), (.str "best" 416), (.str "value" 417)] 0), #[]⟩
noncomputable def o198 (_ : Params) : Obj := ⟨(.type "tuple"), none, (.seq #[] 0), #[]⟩
noncomputable def o200 (_ : Params) : Obj := ⟨(.type "code"), none, (.fields #[(.str "greatest" 412), (.str "greatest" 413), (.str "/claim/cut.py" 414), (.int (88) 0), (.int (1) 0), (.int (0) 0), (.int (0) 0), (.int (3) 0), (.ref 195), (.bool true), (.int (181) 0), (.ref 196), .none, (.ref 197), (.ref 198), (.ref 199), (.int (418) 0), (.int (88) 0), (.str "/claim/cut.py" 419)]), #[]⟩
noncomputable def o201 (_ : Params) : Obj := fnO "greatest" "greatest" .none .none .none (.str "paperhold.decimals" 252) none (.ref 200) .none (rfl : fnP PW 11 none = some (_, _, _))
noncomputable def o209 (_ : Params) : Obj := ⟨(.type "tuple"), none, (.seq #[] 0), #[]⟩
noncomputable def o211 (_ : Params) : Obj := ⟨(.type "tuple"), none, (.seq #[(.str "self" 440), (.str "text" 441)] 0), #[]⟩
noncomputable def o212 (_ : Params) : Obj := ⟨(.type "tuple"), none, (.seq #[] 0), #[]⟩
noncomputable def o214 (_ : Params) : Obj := ⟨(.type "code"), none, (.fields #[(.str "__init__" 437), (.str "Name.__init__" 438), (.str "/claim/cut.py" 439), (.int (100) 0), (.int (2) 0), (.int (0) 0), (.int (0) 0), (.int (3) 0), (.ref 209), (.bool true), (.int (181) 0), (.ref 210), .none, (.ref 211), (.ref 212), (.ref 213), (.int (442) 0), (.int (100) 0), (.str "/claim/cut.py" 443)]), #[]⟩
noncomputable def o215 (_ : Params) : Obj := fnO "__init__" "Name.__init__" .none .none .none (.str "paperhold.objects" 421) none (.ref 214) .none (rfl : fnP PW 14 (some 0) = some (_, _, _))
noncomputable def o216 (_ : Params) : Obj := ⟨(.type "tuple"), none, (.seq #[(.str "text" 445)] 0), #[]⟩
noncomputable def o217 (P : Params) : Obj := ⟨(.type "dict"), none, (.dict (entsOf P (("__module__", 432, (.str "paperhold.objects" 421)) :: ("__firstlineno__", 436, (.int (98) 435)) :: ("__init__", 444, (.ref 215)) :: ("__static_attributes__", 446, (.ref 216)) :: ("__dict__", 448, (.ref 219)) :: ("__weakref__", 450, (.ref 220)) :: ("__doc__", 451, .none) :: [])).toArray 4), #[]⟩
noncomputable def o218 (_ : Params) : Obj := ⟨(.type "type"), none, (.cls ⟨"Name", [(.type "object")], [(.ref 218), (.type "object")], 217, "Name", true, [], [], false, none, false⟩), #[none, none, (some (.str "Name" 425)), (some (.str "Name" 433)), (some (.builtin "object.__new__")), (some (.bool true))]⟩
noncomputable def o219 (_ : Params) : Obj := ⟨(.type "getset_descriptor"), none, (.fields #[(.str "__dict__" 447), (.ref 218), (.builtin "function.__dict__"), (.builtin "function.__dict__#set")]), #[]⟩
noncomputable def o220 (_ : Params) : Obj := ⟨(.type "getset_descriptor"), none, (.fields #[(.str "__weakref__" 449), (.ref 218), (.builtin "ExceptionGroup.__weakref__"), .none]), #[]⟩
noncomputable def o230 (_ : Params) : Obj := ⟨(.type "tuple"), none, (.seq #[(.bool false)] 0), #[]⟩
noncomputable def o231 (_ : Params) : Obj := ⟨(.type "tuple"), none, (.seq #[] 0), #[]⟩
noncomputable def o233 (_ : Params) : Obj := ⟨(.type "tuple"), none, (.seq #[(.str "self" 469), (.str "octets" 470), (.str "is_hex" 471)] 0), #[]⟩
noncomputable def o234 (_ : Params) : Obj := ⟨(.type "tuple"), none, (.seq #[] 0), #[]⟩
noncomputable def o236 (_ : Params) : Obj := ⟨(.type "code"), none, (.fields #[(.str "__init__" 466), (.str "String.__init__" 467), (.str "/claim/cut.py" 468), (.int (104) 0), (.int (3) 0), (.int (0) 0), (.int (0) 0), (.int (3) 0), (.ref 231), (.bool true), (.int (181) 0), (.ref 232), .none, (.ref 233), (.ref 234), (.ref 235), (.int (472) 0), (.int (104) 0), (.str "/claim/cut.py" 473)]), #[]⟩
noncomputable def o237 (_ : Params) : Obj := fnO "__init__" "String.__init__" (.ref 230) .none .none (.str "paperhold.objects" 421) none (.ref 236) .none (rfl : fnP PW 15 (some 0) = some (_, _, _))
noncomputable def o238 (_ : Params) : Obj := ⟨(.type "tuple"), none, (.seq #[(.str "is_hex" 475), (.str "octets" 476)] 0), #[]⟩
noncomputable def o239 (P : Params) : Obj := ⟨(.type "dict"), none, (.dict (entsOf P (("__module__", 461, (.str "paperhold.objects" 421)) :: ("__firstlineno__", 465, (.int (102) 464)) :: ("__init__", 474, (.ref 237)) :: ("__static_attributes__", 477, (.ref 238)) :: ("__dict__", 479, (.ref 241)) :: ("__weakref__", 481, (.ref 242)) :: ("__doc__", 482, .none) :: [])).toArray 4), #[]⟩
noncomputable def o240 (_ : Params) : Obj := ⟨(.type "type"), none, (.cls ⟨"String", [(.type "object")], [(.ref 240), (.type "object")], 239, "String", true, [], [], false, none, false⟩), #[none, none, (some (.str "String" 454)), (some (.str "String" 462)), (some (.builtin "object.__new__")), (some (.bool true))]⟩
noncomputable def o241 (_ : Params) : Obj := ⟨(.type "getset_descriptor"), none, (.fields #[(.str "__dict__" 478), (.ref 240), (.builtin "function.__dict__"), (.builtin "function.__dict__#set")]), #[]⟩
noncomputable def o242 (_ : Params) : Obj := ⟨(.type "getset_descriptor"), none, (.fields #[(.str "__weakref__" 480), (.ref 240), (.builtin "ExceptionGroup.__weakref__"), .none]), #[]⟩
noncomputable def o252 (_ : Params) : Obj := ⟨(.type "tuple"), none, (.seq #[] 0), #[]⟩
noncomputable def o254 (_ : Params) : Obj := ⟨(.type "tuple"), none, (.seq #[(.str "self" 500), (.str "head" 501), (.str "octets" 502)] 0), #[]⟩
noncomputable def o255 (_ : Params) : Obj := ⟨(.type "tuple"), none, (.seq #[] 0), #[]⟩
noncomputable def o257 (_ : Params) : Obj := ⟨(.type "code"), none, (.fields #[(.str "__init__" 497), (.str "Stream.__init__" 498), (.str "/claim/cut.py" 499), (.int (109) 0), (.int (3) 0), (.int (0) 0), (.int (0) 0), (.int (3) 0), (.ref 252), (.bool true), (.int (181) 0), (.ref 253), .none, (.ref 254), (.ref 255), (.ref 256), (.int (503) 0), (.int (109) 0), (.str "/claim/cut.py" 504)]), #[]⟩
noncomputable def o258 (_ : Params) : Obj := fnO "__init__" "Stream.__init__" .none .none .none (.str "paperhold.objects" 421) none (.ref 257) .none (rfl : fnP PW 16 (some 0) = some (_, _, _))
noncomputable def o259 (_ : Params) : Obj := ⟨(.type "tuple"), none, (.seq #[(.str "head" 506), (.str "octets" 507)] 0), #[]⟩
noncomputable def o260 (P : Params) : Obj := ⟨(.type "dict"), none, (.dict (entsOf P (("__module__", 492, (.str "paperhold.objects" 421)) :: ("__firstlineno__", 496, (.int (107) 495)) :: ("__init__", 505, (.ref 258)) :: ("__static_attributes__", 508, (.ref 259)) :: ("__dict__", 510, (.ref 262)) :: ("__weakref__", 512, (.ref 263)) :: ("__doc__", 513, .none) :: [])).toArray 4), #[]⟩
noncomputable def o261 (_ : Params) : Obj := ⟨(.type "type"), none, (.cls ⟨"Stream", [(.type "object")], [(.ref 261), (.type "object")], 260, "Stream", true, [], [], false, none, false⟩), #[none, none, (some (.str "Stream" 485)), (some (.str "Stream" 493)), (some (.builtin "object.__new__")), (some (.bool true))]⟩
noncomputable def o262 (_ : Params) : Obj := ⟨(.type "getset_descriptor"), none, (.fields #[(.str "__dict__" 509), (.ref 261), (.builtin "function.__dict__"), (.builtin "function.__dict__#set")]), #[]⟩
noncomputable def o263 (_ : Params) : Obj := ⟨(.type "getset_descriptor"), none, (.fields #[(.str "__weakref__" 511), (.ref 261), (.builtin "ExceptionGroup.__weakref__"), .none]), #[]⟩
noncomputable def o273 (_ : Params) : Obj := ⟨(.type "tuple"), none, (.seq #[] 0), #[]⟩
noncomputable def o275 (_ : Params) : Obj := ⟨(.type "tuple"), none, (.seq #[(.str "self" 531), (.str "number" 532), (.str "generation" 533)] 0), #[]⟩
noncomputable def o276 (_ : Params) : Obj := ⟨(.type "tuple"), none, (.seq #[] 0), #[]⟩
noncomputable def o278 (_ : Params) : Obj := ⟨(.type "code"), none, (.fields #[(.str "__init__" 528), (.str "Reference.__init__" 529), (.str "/claim/cut.py" 530), (.int (114) 0), (.int (3) 0), (.int (0) 0), (.int (0) 0), (.int (3) 0), (.ref 273), (.bool true), (.int (181) 0), (.ref 274), .none, (.ref 275), (.ref 276), (.ref 277), (.int (534) 0), (.int (114) 0), (.str "/claim/cut.py" 535)]), #[]⟩
noncomputable def o279 (_ : Params) : Obj := fnO "__init__" "Reference.__init__" .none .none .none (.str "paperhold.objects" 421) none (.ref 278) .none (rfl : fnP PW 17 (some 0) = some (_, _, _))
noncomputable def o280 (_ : Params) : Obj := ⟨(.type "tuple"), none, (.seq #[] 0), #[]⟩
noncomputable def o282 (_ : Params) : Obj := ⟨(.type "tuple"), none, (.seq #[(.str "self" 540)] 0), #[]⟩
noncomputable def o283 (_ : Params) : Obj := ⟨(.type "tuple"), none, (.seq #[] 0), #[]⟩
noncomputable def o285 (_ : Params) : Obj := ⟨(.type "code"), none, (.fields #[(.str "pair" 537), (.str "Reference.pair" 538), (.str "/claim/cut.py" 539), (.int (118) 0), (.int (1) 0), (.int (0) 0), (.int (0) 0), (.int (3) 0), (.ref 280), (.bool true), (.int (181) 0), (.ref 281), .none, (.ref 282), (.ref 283), (.ref 284), (.int (541) 0), (.int (118) 0), (.str "/claim/cut.py" 542)]), #[]⟩
noncomputable def o286 (_ : Params) : Obj := fnO "pair" "Reference.pair" .none .none .none (.str "paperhold.objects" 421) none (.ref 285) .none (rfl : fnP PW 17 (some 1) = some (_, _, _))
noncomputable def o287 (_ : Params) : Obj := ⟨(.type "tuple"), none, (.seq #[(.str "generation" 544), (.str "number" 545)] 0), #[]⟩
noncomputable def o288 (P : Params) : Obj := ⟨(.type "dict"), none, (.dict (entsOf P (("__module__", 523, (.str "paperhold.objects" 421)) :: ("__firstlineno__", 527, (.int (112) 526)) :: ("__init__", 536, (.ref 279)) :: ("pair", 543, (.ref 286)) :: ("__static_attributes__", 546, (.ref 287)) :: ("__dict__", 548, (.ref 290)) :: ("__weakref__", 550, (.ref 291)) :: ("__doc__", 551, .none) :: [])).toArray 4), #[]⟩
noncomputable def o289 (_ : Params) : Obj := ⟨(.type "type"), none, (.cls ⟨"Reference", [(.type "object")], [(.ref 289), (.type "object")], 288, "Reference", true, [], [], false, none, false⟩), #[none, none, (some (.str "Reference" 516)), (some (.str "Reference" 524)), (some (.builtin "object.__new__")), (some (.bool true))]⟩
noncomputable def o290 (_ : Params) : Obj := ⟨(.type "getset_descriptor"), none, (.fields #[(.str "__dict__" 547), (.ref 289), (.builtin "function.__dict__"), (.builtin "function.__dict__#set")]), #[]⟩
noncomputable def o291 (_ : Params) : Obj := ⟨(.type "getset_descriptor"), none, (.fields #[(.str "__weakref__" 549), (.ref 289), (.builtin "ExceptionGroup.__weakref__"), .none]), #[]⟩
noncomputable def o294 (_ : Params) : Obj := ⟨(.type "tuple"), none, (.seq #[] 0), #[]⟩
noncomputable def o296 (_ : Params) : Obj := ⟨(.type "tuple"), none, (.seq #[(.str "value" 557)] 0), #[]⟩
noncomputable def o297 (_ : Params) : Obj := ⟨(.type "tuple"), none, (.seq #[] 0), #[]⟩
noncomputable def o299 (_ : Params) : Obj := ⟨(.type "code"), none, (.fields #[(.str "kind_of" 554), (.str "kind_of" 555), (.str "/claim/cut.py" 556), (.int (120) 0), (.int (1) 0), (.int (0) 0), (.int (0) 0), (.int (3) 0), (.ref 294), (.bool true), (.int (181) 0), (.ref 295), .none, (.ref 296), (.ref 297), (.ref 298), (.int (558) 0), (.int (120) 0), (.str "/claim/cut.py" 559)]), #[]⟩
noncomputable def o300 (_ : Params) : Obj := fnO "kind_of" "kind_of" .none .none .none (.str "paperhold.objects" 421) none (.ref 299) .none (rfl : fnP PW 18 none = some (_, _, _))
noncomputable def o301 (_ : Params) : Obj := ⟨(.type "tuple"), none, (.seq #[] 0), #[]⟩
noncomputable def o303 (_ : Params) : Obj := ⟨(.type "tuple"), none, (.seq #[(.str "value" 564)] 0), #[]⟩
noncomputable def o304 (_ : Params) : Obj := ⟨(.type "tuple"), none, (.seq #[] 0), #[]⟩
noncomputable def o306 (_ : Params) : Obj := ⟨(.type "code"), none, (.fields #[(.str "is_number" 561), (.str "is_number" 562), (.str "/claim/cut.py" 563), (.int (142) 0), (.int (1) 0), (.int (0) 0), (.int (0) 0), (.int (3) 0), (.ref 301), (.bool true), (.int (181) 0), (.ref 302), .none, (.ref 303), (.ref 304), (.ref 305), (.int (565) 0), (.int (142) 0), (.str "/claim/cut.py" 566)]), #[]⟩
noncomputable def o307 (_ : Params) : Obj := fnO "is_number" "is_number" .none .none .none (.str "paperhold.objects" 421) none (.ref 306) .none (rfl : fnP PW 19 none = some (_, _, _))
noncomputable def o308 (_ : Params) : Obj := ⟨(.type "tuple"), none, (.seq #[] 0), #[]⟩
noncomputable def o310 (_ : Params) : Obj := ⟨(.type "tuple"), none, (.seq #[(.str "kind" 571), (.str "value" 572)] 0), #[]⟩
noncomputable def o311 (_ : Params) : Obj := ⟨(.type "tuple"), none, (.seq #[] 0), #[]⟩
noncomputable def o313 (_ : Params) : Obj := ⟨(.type "code"), none, (.fields #[(.str "told_plain" 568), (.str "told_plain" 569), (.str "/claim/cut.py" 570), (.int (144) 0), (.int (2) 0), (.int (0) 0), (.int (0) 0), (.int (3) 0), (.ref 308), (.bool true), (.int (181) 0), (.ref 309), .none, (.ref 310), (.ref 311), (.ref 312), (.int (573) 0), (.int (144) 0), (.str "/claim/cut.py" 574)]), #[]⟩
noncomputable def o314 (_ : Params) : Obj := fnO "told_plain" "told_plain" .none .none .none (.str "paperhold.objects" 421) none (.ref 313) .none (rfl : fnP PW 20 none = some (_, _, _))
noncomputable def o315 (_ : Params) : Obj := ⟨(.type "tuple"), none, (.seq #[] 0), #[]⟩
noncomputable def o318 (_ : Params) : Obj := ⟨(.type "code"), none, (.fields #[(.str "told" 576), (.str "told" 577), (.str "/claim/cut.py" 578), (.int (158) 0), (.int (1) 0), (.int (0) 0), (.int (0) 0), (.int (3) 0), (.ref 315), (.bool true), (.int (181) 0), (.ref 316), .none, .none, .none, (.ref 317), (.int (579) 0), (.int (158) 0), (.str "/claim/cut.py" 580)]), #[]⟩
noncomputable def o319 (_ : Params) : Obj := fnO "told" "told" .none .none .none (.str "paperhold.objects" 421) none (.ref 318) .none (rfl : fnP PW 21 none = some (_, _, _))
noncomputable def o327 (_ : Params) : Obj := ⟨(.type "tuple"), none, (.seq #[.none, .none] 0), #[]⟩
noncomputable def o328 (_ : Params) : Obj := ⟨(.type "tuple"), none, (.seq #[] 0), #[]⟩
noncomputable def o330 (_ : Params) : Obj := ⟨(.type "tuple"), none, (.seq #[(.str "self" 598), (.str "table" 599), (.str "trailer" 600)] 0), #[]⟩
noncomputable def o331 (_ : Params) : Obj := ⟨(.type "tuple"), none, (.seq #[] 0), #[]⟩
noncomputable def o333 (_ : Params) : Obj := ⟨(.type "code"), none, (.fields #[(.str "__init__" 595), (.str "Lookup.__init__" 596), (.str "/claim/cut.py" 597), (.int (170) 0), (.int (3) 0), (.int (0) 0), (.int (0) 0), (.int (3) 0), (.ref 328), (.bool true), (.int (181) 0), (.ref 329), .none, (.ref 330), (.ref 331), (.ref 332), (.int (601) 0), (.int (170) 0), (.str "/claim/cut.py" 602)]), #[]⟩
noncomputable def o334 (_ : Params) : Obj := fnO "__init__" "Lookup.__init__" (.ref 327) .none .none (.str "paperhold.objects" 421) none (.ref 333) .none (rfl : fnP PW 23 (some 0) = some (_, _, _))
noncomputable def o335 (_ : Params) : Obj := ⟨(.type "tuple"), none, (.seq #[] 0), #[]⟩
noncomputable def o337 (_ : Params) : Obj := ⟨(.type "tuple"), none, (.seq #[(.str "self" 607), (.str "value" 608), (.str "here" 609), (.str "hop" 610), (.str "generation" 611), (.str "found" 612)] 0), #[]⟩
noncomputable def o338 (_ : Params) : Obj := ⟨(.type "tuple"), none, (.seq #[] 0), #[]⟩
noncomputable def o340 (_ : Params) : Obj := ⟨(.type "code"), none, (.fields #[(.str "fetch" 604), (.str "Lookup.fetch" 605), (.str "/claim/cut.py" 606), (.int (174) 0), (.int (2) 0), (.int (0) 0), (.int (0) 0), (.int (3) 0), (.ref 335), (.bool true), (.int (181) 0), (.ref 336), .none, (.ref 337), (.ref 338), (.ref 339), (.int (613) 0), (.int (174) 0), (.str "/claim/cut.py" 614)]), #[]⟩
noncomputable def o341 (_ : Params) : Obj := fnO "fetch" "Lookup.fetch" .none .none .none (.str "paperhold.objects" 421) none (.ref 340) .none (rfl : fnP PW 23 (some 1) = some (_, _, _))
noncomputable def o342 (_ : Params) : Obj := ⟨(.type "tuple"), none, (.seq #[] 0), #[]⟩
noncomputable def o344 (_ : Params) : Obj := ⟨(.type "tuple"), none, (.seq #[(.str "self" 619), (.str "head" 620), (.str "key" 621)] 0), #[]⟩
noncomputable def o345 (_ : Params) : Obj := ⟨(.type "tuple"), none, (.seq #[] 0), #[]⟩
noncomputable def o347 (_ : Params) : Obj := ⟨(.type "code"), none, (.fields #[(.str "get" 616), (.str "Lookup.get" 617), (.str "/claim/cut.py" 618), (.int (185) 0), (.int (3) 0), (.int (0) 0), (.int (0) 0), (.int (3) 0), (.ref 342), (.bool true), (.int (181) 0), (.ref 343), .none, (.ref 344), (.ref 345), (.ref 346), (.int (622) 0), (.int (185) 0), (.str "/claim/cut.py" 623)]), #[]⟩
noncomputable def o348 (_ : Params) : Obj := fnO "get" "Lookup.get" .none .none .none (.str "paperhold.objects" 421) none (.ref 347) .none (rfl : fnP PW 23 (some 2) = some (_, _, _))
noncomputable def o349 (_ : Params) : Obj := ⟨(.type "tuple"), none, (.seq #[(.str "table" 625), (.str "trailer" 626)] 0), #[]⟩
noncomputable def o350 (P : Params) : Obj := ⟨(.type "dict"), none, (.dict (entsOf P (("__module__", 590, (.str "paperhold.objects" 421)) :: ("__firstlineno__", 594, (.int (168) 593)) :: ("__init__", 603, (.ref 334)) :: ("fetch", 615, (.ref 341)) :: ("get", 624, (.ref 348)) :: ("__static_attributes__", 627, (.ref 349)) :: ("__dict__", 629, (.ref 352)) :: ("__weakref__", 631, (.ref 353)) :: ("__doc__", 632, .none) :: [])).toArray 4), #[]⟩
noncomputable def o351 (_ : Params) : Obj := ⟨(.type "type"), none, (.cls ⟨"Lookup", [(.type "object")], [(.ref 351), (.type "object")], 350, "Lookup", true, [], [(.ref 405)], false, none, false⟩), #[none, none, (some (.str "Lookup" 583)), (some (.str "Lookup" 591)), (some (.builtin "object.__new__")), (some (.bool true))]⟩
noncomputable def o352 (_ : Params) : Obj := ⟨(.type "getset_descriptor"), none, (.fields #[(.str "__dict__" 628), (.ref 351), (.builtin "function.__dict__"), (.builtin "function.__dict__#set")]), #[]⟩
noncomputable def o353 (_ : Params) : Obj := ⟨(.type "getset_descriptor"), none, (.fields #[(.str "__weakref__" 630), (.ref 351), (.builtin "ExceptionGroup.__weakref__"), .none]), #[]⟩
noncomputable def o356 (_ : Params) : Obj := ⟨(.type "tuple"), none, (.seq #[(.ref 351)] 0), #[]⟩
noncomputable def o363 (_ : Params) : Obj := ⟨(.type "tuple"), none, (.seq #[] 0), #[]⟩
noncomputable def o365 (_ : Params) : Obj := ⟨(.type "tuple"), none, (.seq #[(.str "self" 650), (.str "number" 651), (.str "generation" 652), (.str "value" 653)] 0), #[]⟩
noncomputable def o366 (_ : Params) : Obj := ⟨(.type "tuple"), none, (.seq #[] 0), #[]⟩
noncomputable def o368 (_ : Params) : Obj := ⟨(.type "code"), none, (.fields #[(.str "put" 647), (.str "Shelf.put" 648), (.str "/claim/cut.py" 649), (.int (189) 0), (.int (4) 0), (.int (0) 0), (.int (0) 0), (.int (3) 0), (.ref 363), (.bool true), (.int (181) 0), (.ref 364), .none, (.ref 365), (.ref 366), (.ref 367), (.int (654) 0), (.int (189) 0), (.str "/claim/cut.py" 655)]), #[]⟩
noncomputable def o369 (_ : Params) : Obj := fnO "put" "Shelf.put" .none .none .none (.str "paperhold.objects" 421) none (.ref 368) .none (rfl : fnP PW 24 (some 0) = some (_, _, _))
noncomputable def o370 (_ : Params) : Obj := ⟨(.type "tuple"), none, (.seq #[] 0), #[]⟩
noncomputable def o372 (_ : Params) : Obj := ⟨(.type "tuple"), none, (.seq #[(.str "self" 660), (.str "value" 661), (.str "number" 662)] 0), #[]⟩
noncomputable def o373 (_ : Params) : Obj := ⟨(.type "tuple"), none, (.seq #[] 0), #[]⟩
noncomputable def o375 (_ : Params) : Obj := ⟨(.type "code"), none, (.fields #[(.str "add" 657), (.str "Shelf.add" 658), (.str "/claim/cut.py" 659), (.int (192) 0), (.int (2) 0), (.int (0) 0), (.int (0) 0), (.int (3) 0), (.ref 370), (.bool true), (.int (181) 0), (.ref 371), .none, (.ref 372), (.ref 373), (.ref 374), (.int (663) 0), (.int (192) 0), (.str "/claim/cut.py" 664)]), #[]⟩
noncomputable def o376 (_ : Params) : Obj := fnO "add" "Shelf.add" .none .none .none (.str "paperhold.objects" 421) none (.ref 375) .none (rfl : fnP PW 24 (some 1) = some (_, _, _))
noncomputable def o377 (_ : Params) : Obj := ⟨(.type "tuple"), none, (.seq #[] 0), #[]⟩
noncomputable def o379 (_ : Params) : Obj := ⟨(.type "tuple"), none, (.seq #[(.str "self" 669), (.str "number" 670)] 0), #[]⟩
noncomputable def o380 (_ : Params) : Obj := ⟨(.type "tuple"), none, (.seq #[] 0), #[]⟩
noncomputable def o382 (_ : Params) : Obj := ⟨(.type "code"), none, (.fields #[(.str "drop" 666), (.str "Shelf.drop" 667), (.str "/claim/cut.py" 668), (.int (199) 0), (.int (2) 0), (.int (0) 0), (.int (0) 0), (.int (3) 0), (.ref 377), (.bool true), (.int (181) 0), (.ref 378), .none, (.ref 379), (.ref 380), (.ref 381), (.int (671) 0), (.int (199) 0), (.str "/claim/cut.py" 672)]), #[]⟩
noncomputable def o383 (_ : Params) : Obj := fnO "drop" "Shelf.drop" .none .none .none (.str "paperhold.objects" 421) none (.ref 382) .none (rfl : fnP PW 24 (some 2) = some (_, _, _))
noncomputable def o384 (_ : Params) : Obj := ⟨(.type "tuple"), none, (.seq #[] 0), #[]⟩
noncomputable def o386 (_ : Params) : Obj := ⟨(.type "tuple"), none, (.seq #[(.str "self" 677)] 0), #[]⟩
noncomputable def o387 (_ : Params) : Obj := ⟨(.type "tuple"), none, (.seq #[] 0), #[]⟩
noncomputable def o389 (_ : Params) : Obj := ⟨(.type "code"), none, (.fields #[(.str "numbers" 674), (.str "Shelf.numbers" 675), (.str "/claim/cut.py" 676), (.int (202) 0), (.int (1) 0), (.int (0) 0), (.int (0) 0), (.int (3) 0), (.ref 384), (.bool true), (.int (181) 0), (.ref 385), .none, (.ref 386), (.ref 387), (.ref 388), (.int (678) 0), (.int (202) 0), (.str "/claim/cut.py" 679)]), #[]⟩
noncomputable def o390 (_ : Params) : Obj := fnO "numbers" "Shelf.numbers" .none .none .none (.str "paperhold.objects" 421) none (.ref 389) .none (rfl : fnP PW 24 (some 3) = some (_, _, _))
noncomputable def o391 (_ : Params) : Obj := ⟨(.type "tuple"), none, (.seq #[] 0), #[]⟩
noncomputable def o393 (_ : Params) : Obj := ⟨(.type "tuple"), none, (.seq #[(.str "self" 684)] 0), #[]⟩
noncomputable def o394 (_ : Params) : Obj := ⟨(.type "tuple"), none, (.seq #[] 0), #[]⟩
noncomputable def o396 (_ : Params) : Obj := ⟨(.type "code"), none, (.fields #[(.str "root" 681), (.str "Shelf.root" 682), (.str "/claim/cut.py" 683), (.int (205) 0), (.int (1) 0), (.int (0) 0), (.int (0) 0), (.int (3) 0), (.ref 391), (.bool true), (.int (181) 0), (.ref 392), .none, (.ref 393), (.ref 394), (.ref 395), (.int (685) 0), (.int (205) 0), (.str "/claim/cut.py" 686)]), #[]⟩
noncomputable def o397 (_ : Params) : Obj := fnO "root" "Shelf.root" .none .none .none (.str "paperhold.objects" 421) none (.ref 396) .none (rfl : fnP PW 24 (some 4) = some (_, _, _))
noncomputable def o398 (_ : Params) : Obj := ⟨(.type "tuple"), none, (.seq #[] 0), #[]⟩
noncomputable def o401 (_ : Params) : Obj := ⟨(.type "code"), none, (.fields #[(.str "told" 688), (.str "Shelf.told" 689), (.str "/claim/cut.py" 690), (.int (208) 0), (.int (1) 0), (.int (0) 0), (.int (0) 0), (.int (3) 0), (.ref 398), (.bool true), (.int (181) 0), (.ref 399), .none, .none, .none, (.ref 400), (.int (691) 0), (.int (208) 0), (.str "/claim/cut.py" 692)]), #[]⟩
noncomputable def o402 (_ : Params) : Obj := fnO "told" "Shelf.told" .none .none .none (.str "paperhold.objects" 421) none (.ref 401) .none (rfl : fnP PW 24 (some 5) = some (_, _, _))
noncomputable def o403 (_ : Params) : Obj := ⟨(.type "tuple"), none, (.seq #[] 0), #[]⟩
noncomputable def o404 (P : Params) : Obj := ⟨(.type "dict"), none, (.dict (entsOf P (("__module__", 642, (.str "paperhold.objects" 421)) :: ("__firstlineno__", 646, (.int (187) 645)) :: ("put", 656, (.ref 369)) :: ("add", 665, (.ref 376)) :: ("drop", 673, (.ref 383)) :: ("numbers", 680, (.ref 390)) :: ("root", 687, (.ref 397)) :: ("told", 693, (.ref 402)) :: ("__static_attributes__", 694, (.ref 403)) :: ("__doc__", 695, .none) :: [])).toArray 2), #[]⟩
noncomputable def o405 (_ : Params) : Obj := ⟨(.type "type"), none, (.cls ⟨"Shelf", [(.ref 351)], [(.ref 405), (.ref 351), (.type "object")], 404, "Shelf", true, [], [], false, none, false⟩), #[(some (.ref 356)), none, (some (.str "Shelf" 635)), (some (.str "Shelf" 643)), (some (.builtin "object.__new__")), (some (.bool true))]⟩
noncomputable def o415 (_ : Params) : Obj := ⟨(.type "tuple"), none, (.seq #[] 0), #[]⟩
noncomputable def o417 (_ : Params) : Obj := ⟨(.type "tuple"), none, (.seq #[(.str "self" 715), (.str "reference" 716), (.str "fields" 717)] 0), #[]⟩
noncomputable def o418 (_ : Params) : Obj := ⟨(.type "tuple"), none, (.seq #[] 0), #[]⟩
noncomputable def o420 (_ : Params) : Obj := ⟨(.type "code"), none, (.fields #[(.str "__init__" 712), (.str "Page.__init__" 713), (.str "/claim/cut.py" 714), (.int (214) 0), (.int (3) 0), (.int (0) 0), (.int (0) 0), (.int (3) 0), (.ref 415), (.bool true), (.int (181) 0), (.ref 416), .none, (.ref 417), (.ref 418), (.ref 419), (.int (718) 0), (.int (214) 0), (.str "/claim/cut.py" 719)]), #[]⟩
noncomputable def o421 (_ : Params) : Obj := fnO "__init__" "Page.__init__" .none .none .none (.str "paperhold.pagetree" 698) none (.ref 420) .none (rfl : fnP PW 26 (some 0) = some (_, _, _))
noncomputable def o422 (_ : Params) : Obj := ⟨(.type "tuple"), none, (.seq #[(.str "fields" 721), (.str "reference" 722)] 0), #[]⟩
noncomputable def o423 (P : Params) : Obj := ⟨(.type "dict"), none, (.dict (entsOf P (("__module__", 707, (.str "paperhold.pagetree" 698)) :: ("__firstlineno__", 711, (.int (212) 710)) :: ("__init__", 720, (.ref 421)) :: ("__static_attributes__", 723, (.ref 422)) :: ("__dict__", 725, (.ref 425)) :: ("__weakref__", 727, (.ref 426)) :: ("__doc__", 728, .none) :: [])).toArray 4), #[]⟩
noncomputable def o424 (_ : Params) : Obj := ⟨(.type "type"), none, (.cls ⟨"Page", [(.type "object")], [(.ref 424), (.type "object")], 423, "Page", true, [], [], false, none, false⟩), #[none, none, (some (.str "Page" 700)), (some (.str "Page" 708)), (some (.builtin "object.__new__")), (some (.bool true))]⟩
noncomputable def o425 (_ : Params) : Obj := ⟨(.type "getset_descriptor"), none, (.fields #[(.str "__dict__" 724), (.ref 424), (.builtin "function.__dict__"), (.builtin "function.__dict__#set")]), #[]⟩
noncomputable def o426 (_ : Params) : Obj := ⟨(.type "getset_descriptor"), none, (.fields #[(.str "__weakref__" 726), (.ref 424), (.builtin "ExceptionGroup.__weakref__"), .none]), #[]⟩
noncomputable def o429 (_ : Params) : Obj := ⟨(.type "tuple"), none, (.seq #[] 0), #[]⟩
noncomputable def o432 (_ : Params) : Obj := ⟨(.type "code"), none, (.fields #[(.str "four_numbers" 731), (.str "four_numbers" 732), (.str "/claim/cut.py" 733), (.int (217) 0), (.int (2) 0), (.int (0) 0), (.int (0) 0), (.int (3) 0), (.ref 429), (.bool true), (.int (181) 0), (.ref 430), .none, .none, .none, (.ref 431), (.int (734) 0), (.int (217) 0), (.str "/claim/cut.py" 735)]), #[]⟩
noncomputable def o433 (_ : Params) : Obj := fnO "four_numbers" "four_numbers" .none .none .none (.str "paperhold.pagetree" 698) none (.ref 432) .none (rfl : fnP PW 27 none = some (_, _, _))
noncomputable def o434 (_ : Params) : Obj := ⟨(.type "tuple"), none, (.seq #[] 0), #[]⟩
noncomputable def o437 (_ : Params) : Obj := ⟨(.type "code"), none, (.fields #[(.str "box" 737), (.str "box" 738), (.str "/claim/cut.py" 739), (.int (227) 0), (.int (2) 0), (.int (0) 0), (.int (0) 0), (.int (3) 0), (.ref 434), (.bool true), (.int (181) 0), (.ref 435), .none, .none, .none, (.ref 436), (.int (740) 0), (.int (227) 0), (.str "/claim/cut.py" 741)]), #[]⟩
noncomputable def o438 (_ : Params) : Obj := fnO "box" "box" .none .none .none (.str "paperhold.pagetree" 698) none (.ref 437) .none (rfl : fnP PW 28 none = some (_, _, _))
noncomputable def o439 (_ : Params) : Obj := ⟨(.type "tuple"), none, (.seq #[] 0), #[]⟩
noncomputable def o441 (_ : Params) : Obj := ⟨(.type "tuple"), none, (.seq #[(.str "shelf" 746), (.str "page" 747), (.str "turn" 748)] 0), #[]⟩
noncomputable def o442 (_ : Params) : Obj := ⟨(.type "tuple"), none, (.seq #[] 0), #[]⟩
noncomputable def o444 (_ : Params) : Obj := ⟨(.type "code"), none, (.fields #[(.str "rotation" 743), (.str "rotation" 744), (.str "/claim/cut.py" 745), (.int (237) 0), (.int (2) 0), (.int (0) 0), (.int (0) 0), (.int (3) 0), (.ref 439), (.bool true), (.int (181) 0), (.ref 440), .none, (.ref 441), (.ref 442), (.ref 443), (.int (749) 0), (.int (237) 0), (.str "/claim/cut.py" 750)]), #[]⟩
noncomputable def o445 (_ : Params) : Obj := fnO "rotation" "rotation" .none .none .none (.str "paperhold.pagetree" 698) none (.ref 444) .none (rfl : fnP PW 29 none = some (_, _, _))
noncomputable def o446 (_ : Params) : Obj := ⟨(.type "tuple"), none, (.seq #[] 0), #[]⟩
noncomputable def o449 (_ : Params) : Obj := ⟨(.type "code"), none, (.fields #[(.str "_law_pen" 754), (.str "_law_pen" 755), (.str "/claim/cut.py" 756), (.int (245) 0), (.int (1) 0), (.int (0) 0), (.int (0) 0), (.int (3) 0), (.ref 446), (.bool true), (.int (181) 0), (.ref 447), .none, .none, .none, (.ref 448), (.int (757) 0), (.int (245) 0), (.str "/claim/cut.py" 758)]), #[]⟩
noncomputable def o450 (_ : Params) : Obj := fnO "_law_pen" "_law_pen" .none .none .none (.str "law_nn0125_01" 752) none (.ref 449) .none (rfl : fnP PW 31 none = some (_, _, _))
noncomputable def o451 (_ : Params) : Obj := ⟨(.type "tuple"), none, (.seq #[] 0), #[]⟩
noncomputable def o453 (_ : Params) : Obj := ⟨(.type "tuple"), none, (.seq #[(.str "pen" 763), (.str "many" 764), (.str "digit" 765), (.str "spot" 766), (.str "cell" 767), (.str "great" 768), (.str "stirred" 769)] 0), #[]⟩
noncomputable def o454 (_ : Params) : Obj := ⟨(.type "tuple"), none, (.seq #[] 0), #[]⟩
noncomputable def o456 (_ : Params) : Obj := ⟨(.type "code"), none, (.fields #[(.str "_law_draw" 760), (.str "_law_draw" 761), (.str "/claim/cut.py" 762), (.int (247) 0), (.int (2) 0), (.int (0) 0), (.int (0) 0), (.int (3) 0), (.ref 451), (.bool true), (.int (181) 0), (.ref 452), .none, (.ref 453), (.ref 454), (.ref 455), (.int (770) 0), (.int (247) 0), (.str "/claim/cut.py" 771)]), #[]⟩
noncomputable def o457 (_ : Params) : Obj := fnO "_law_draw" "_law_draw" .none .none .none (.str "law_nn0125_01" 752) none (.ref 456) .none (rfl : fnP PW 32 none = some (_, _, _))
noncomputable def o458 (_ : Params) : Obj := ⟨(.type "tuple"), none, (.seq #[] 0), #[]⟩
noncomputable def o460 (_ : Params) : Obj := ⟨(.type "tuple"), none, (.seq #[(.str "pen" 776), (.str "some" 777)] 0), #[]⟩
noncomputable def o461 (_ : Params) : Obj := ⟨(.type "tuple"), none, (.seq #[] 0), #[]⟩
noncomputable def o463 (_ : Params) : Obj := ⟨(.type "code"), none, (.fields #[(.str "_law_pick" 773), (.str "_law_pick" 774), (.str "/claim/cut.py" 775), (.int (264) 0), (.int (2) 0), (.int (0) 0), (.int (0) 0), (.int (3) 0), (.ref 458), (.bool true), (.int (181) 0), (.ref 459), .none, (.ref 460), (.ref 461), (.ref 462), (.int (778) 0), (.int (264) 0), (.str "/claim/cut.py" 779)]), #[]⟩
noncomputable def o464 (_ : Params) : Obj := fnO "_law_pick" "_law_pick" .none .none .none (.str "law_nn0125_01" 752) none (.ref 463) .none (rfl : fnP PW 33 none = some (_, _, _))
noncomputable def o465 (_ : Params) : Obj := ⟨(.type "tuple"), none, (.seq #[] 0), #[]⟩
noncomputable def o467 (_ : Params) : Obj := ⟨(.type "tuple"), none, (.seq #[(.str "pen" 784), (.str "shelf" 785), (.str "places" 786), (.str "top" 787), (.str "one" 788), (.str "worth" 789), (.str "way" 790)] 0), #[]⟩
noncomputable def o468 (_ : Params) : Obj := ⟨(.type "tuple"), none, (.seq #[] 0), #[]⟩
noncomputable def o470 (_ : Params) : Obj := ⟨(.type "code"), none, (.fields #[(.str "_law_number" 781), (.str "_law_number" 782), (.str "/claim/cut.py" 783), (.int (266) 0), (.int (2) 0), (.int (0) 0), (.int (0) 0), (.int (3) 0), (.ref 465), (.bool true), (.int (181) 0), (.ref 466), .none, (.ref 467), (.ref 468), (.ref 469), (.int (791) 0), (.int (266) 0), (.str "/claim/cut.py" 792)]), #[]⟩
noncomputable def o471 (_ : Params) : Obj := fnO "_law_number" "_law_number" .none .none .none (.str "law_nn0125_01" 752) none (.ref 470) .none (rfl : fnP PW 34 none = some (_, _, _))
noncomputable def o472 (_ : Params) : Obj := ⟨(.type "tuple"), none, (.seq #[] 0), #[]⟩
noncomputable def o475 (_ : Params) : Obj := ⟨(.type "code"), none, (.fields #[(.str "_law_box" 794), (.str "_law_box" 795), (.str "/claim/cut.py" 796), (.int (275) 0), (.int (2) 0), (.int (0) 0), (.int (0) 0), (.int (3) 0), (.ref 472), (.bool true), (.int (181) 0), (.ref 473), .none, .none, .none, (.ref 474), (.int (797) 0), (.int (275) 0), (.str "/claim/cut.py" 798)]), #[]⟩
noncomputable def o476 (_ : Params) : Obj := fnO "_law_box" "_law_box" .none .none .none (.str "law_nn0125_01" 752) none (.ref 475) .none (rfl : fnP PW 35 none = some (_, _, _))
noncomputable def o477 (_ : Params) : Obj := ⟨(.type "tuple"), none, (.seq #[] 0), #[]⟩
noncomputable def o479 (_ : Params) : Obj := ⟨(.type "tuple"), none, (.seq #[(.str "ask" 803)] 0), #[]⟩
noncomputable def o480 (_ : Params) : Obj := ⟨(.type "tuple"), none, (.seq #[] 0), #[]⟩
noncomputable def o482 (_ : Params) : Obj := ⟨(.type "code"), none, (.fields #[(.str "_law_heard" 800), (.str "_law_heard" 801), (.str "/claim/cut.py" 802), (.int (287) 0), (.int (1) 0), (.int (0) 0), (.int (0) 0), (.int (3) 0), (.ref 477), (.bool true), (.int (181) 0), (.ref 478), .none, (.ref 479), (.ref 480), (.ref 481), (.int (804) 0), (.int (287) 0), (.str "/claim/cut.py" 805)]), #[]⟩
noncomputable def o483 (_ : Params) : Obj := fnO "_law_heard" "_law_heard" .none .none .none (.str "law_nn0125_01" 752) none (.ref 482) .none (rfl : fnP PW 36 none = some (_, _, _))
noncomputable def o484 (_ : Params) : Obj := ⟨(.type "tuple"), none, (.seq #[] 0), #[]⟩
noncomputable def o487 (_ : Params) : Obj := ⟨(.type "code"), none, (.fields #[(.str "_law_thousandths" 807), (.str "_law_thousandths" 808), (.str "/claim/cut.py" 809), (.int (292) 0), (.int (1) 0), (.int (0) 0), (.int (0) 0), (.int (3) 0), (.ref 484), (.bool true), (.int (181) 0), (.ref 485), .none, .none, .none, (.ref 486), (.int (810) 0), (.int (292) 0), (.str "/claim/cut.py" 811)]), #[]⟩
noncomputable def o488 (_ : Params) : Obj := fnO "_law_thousandths" "_law_thousandths" .none .none .none (.str "law_nn0125_01" 752) none (.ref 487) .none (rfl : fnP PW 37 none = some (_, _, _))
noncomputable def o489 (_ : Params) : Obj := ⟨(.type "tuple"), none, (.seq #[] 0), #[]⟩
noncomputable def o491 (_ : Params) : Obj := ⟨(.type "tuple"), none, (.seq #[(.str "media" 816), (.str "crop" 817), (.str "sides" 818)] 0), #[]⟩
noncomputable def o492 (_ : Params) : Obj := ⟨(.type "tuple"), none, (.seq #[] 0), #[]⟩
noncomputable def o494 (_ : Params) : Obj := ⟨(.type "code"), none, (.fields #[(.str "_law_cut" 813), (.str "_law_cut" 814), (.str "/claim/cut.py" 815), (.int (298) 0), (.int (2) 0), (.int (0) 0), (.int (0) 0), (.int (3) 0), (.ref 489), (.bool true), (.int (181) 0), (.ref 490), .none, (.ref 491), (.ref 492), (.ref 493), (.int (819) 0), (.int (298) 0), (.str "/claim/cut.py" 820)]), #[]⟩
noncomputable def o495 (_ : Params) : Obj := fnO "_law_cut" "_law_cut" .none .none .none (.str "law_nn0125_01" 752) none (.ref 494) .none (rfl : fnP PW 38 none = some (_, _, _))
noncomputable def o496 (_ : Params) : Obj := ⟨(.type "tuple"), none, (.seq #[] 0), #[]⟩
noncomputable def o498 (_ : Params) : Obj := ⟨(.type "tuple"), none, (.seq #[(.str "pen" 825), (.str "fields" 826), (.str "one" 827), (.str "due" 828), (.str "way" 829), (.str "cut" 830)] 0), #[]⟩
noncomputable def o499 (_ : Params) : Obj := ⟨(.type "tuple"), none, (.seq #[(.str "page" 831), (.str "shelf" 832)] 0), #[]⟩
noncomputable def o501 (_ : Params) : Obj := ⟨(.type "code"), none, (.fields #[(.str "_law_box_holds" 822), (.str "_law_box_holds" 823), (.str "/claim/cut.py" 824), (.int (301) 0), (.int (1) 0), (.int (0) 0), (.int (0) 0), (.int (3) 0), (.ref 496), (.bool true), (.int (181) 0), (.ref 497), .none, (.ref 498), (.ref 499), (.ref 500), (.int (833) 0), (.int (301) 0), (.str "/claim/cut.py" 834)]), #[]⟩
noncomputable def o502 (_ : Params) : Obj := fnO "_law_box_holds" "_law_box_holds" .none .none .none (.str "law_nn0125_01" 752) none (.ref 501) .none (rfl : fnP PW 39 none = some (_, _, _))
noncomputable def o503 (_ : Params) : Obj := ⟨(.type "tuple"), none, (.seq #[] 0), #[]⟩
noncomputable def o505 (_ : Params) : Obj := ⟨(.type "tuple"), none, (.seq #[(.str "pen" 839), (.str "quarters" 840), (.str "off" 841), (.str "one" 842), (.str "due" 843), (.str "way" 844)] 0), #[]⟩
noncomputable def o506 (_ : Params) : Obj := ⟨(.type "tuple"), none, (.seq #[(.str "fields" 845), (.str "shelf" 846)] 0), #[]⟩
noncomputable def o508 (_ : Params) : Obj := ⟨(.type "code"), none, (.fields #[(.str "_law_turn_holds" 836), (.str "_law_turn_holds" 837), (.str "/claim/cut.py" 838), (.int (314) 0), (.int (1) 0), (.int (0) 0), (.int (0) 0), (.int (3) 0), (.ref 503), (.bool true), (.int (181) 0), (.ref 504), .none, (.ref 505), (.ref 506), (.ref 507), (.int (847) 0), (.int (314) 0), (.str "/claim/cut.py" 848)]), #[]⟩
noncomputable def o509 (_ : Params) : Obj := fnO "_law_turn_holds" "_law_turn_holds" .none .none .none (.str "law_nn0125_01" 752) none (.ref 508) .none (rfl : fnP PW 40 none = some (_, _, _))
noncomputable def o510 (_ : Params) : Obj := ⟨(.type "tuple"), none, (.seq #[] 0), #[]⟩
noncomputable def o512 (_ : Params) : Obj := ⟨(.type "tuple"), none, (.seq #[(.str "script" 853), (.str "pen" 854), (.str "turn" 855)] 0), #[]⟩
noncomputable def o513 (_ : Params) : Obj := ⟨(.type "tuple"), none, (.seq #[(.str "empty" 856)] 0), #[]⟩
noncomputable def o515 (_ : Params) : Obj := ⟨(.type "code"), none, (.fields #[(.str "law" 850), (.str "law" 851), (.str "/claim/cut.py" 852), (.int (327) 0), (.int (1) 0), (.int (0) 0), (.int (0) 0), (.int (3) 0), (.ref 510), (.bool true), (.int (181) 0), (.ref 511), .none, (.ref 512), (.ref 513), (.ref 514), (.int (857) 0), (.int (327) 0), (.str "/claim/cut.py" 858)]), #[]⟩
noncomputable def o516 (_ : Params) : Obj := fnO "law" "law" .none .none .none (.str "law_nn0125_01" 752) none (.ref 515) .none (rfl : fnP PW 41 none = some (_, _, _))
noncomputable def KX (P : Params) : Frag :=
  (nat_lit 0, o0 P) :: (nat_lit 1, o1 P) :: (nat_lit 2, o2 P) :: (nat_lit 3, o3 P) :: (nat_lit 4, boot_o_4 P) :: (nat_lit 5, boot_o_5 P) :: (nat_lit 6, o6 P) :: (nat_lit 7, boot_o_7 P) ::
   (nat_lit 9, boot_o_9 P) :: (nat_lit 10, boot_o_10 P) :: (nat_lit 11, o11 P) :: (nat_lit 13, o13 P) :: (nat_lit 14, o14 P) :: (nat_lit 15, o15 P) :: (nat_lit 17, o17 P) :: (nat_lit 18, o18 P) ::
   (nat_lit 20, o20 P) :: (nat_lit 21, o21 P) :: (nat_lit 22, o22 P) :: (nat_lit 29, o29 P) :: (nat_lit 30, o30 P) :: (nat_lit 32, o32 P) :: (nat_lit 33, o33 P) :: (nat_lit 35, o35 P) ::
   (nat_lit 36, o36 P) :: (nat_lit 37, o37 P) :: (nat_lit 39, o39 P) :: (nat_lit 40, o40 P) :: (nat_lit 42, o42 P) :: (nat_lit 43, o43 P) :: (nat_lit 44, o44 P) :: (nat_lit 45, o45 P) ::
   (nat_lit 46, o46 P) :: (nat_lit 47, o47 P) :: (nat_lit 50, o50 P) :: (nat_lit 57, o57 P) :: (nat_lit 58, o58 P) :: (nat_lit 59, o59 P) :: (nat_lit 69, o69 P) :: (nat_lit 71, o71 P) ::
   (nat_lit 72, o72 P) :: (nat_lit 74, o74 P) :: (nat_lit 75, o75 P) :: (nat_lit 76, o76 P) :: (nat_lit 78, o78 P) :: (nat_lit 79, o79 P) :: (nat_lit 81, o81 P) :: (nat_lit 82, o82 P) ::
   (nat_lit 83, o83 P) :: (nat_lit 85, o85 P) :: (nat_lit 86, o86 P) :: (nat_lit 88, o88 P) :: (nat_lit 89, o89 P) :: (nat_lit 90, o90 P) :: (nat_lit 92, o92 P) :: (nat_lit 93, o93 P) ::
   (nat_lit 95, o95 P) :: (nat_lit 96, o96 P) :: (nat_lit 97, o97 P) :: (nat_lit 99, o99 P) :: (nat_lit 100, o100 P) :: (nat_lit 102, o102 P) :: (nat_lit 103, o103 P) :: (nat_lit 104, o104 P) ::
   (nat_lit 106, o106 P) :: (nat_lit 107, o107 P) :: (nat_lit 109, o109 P) :: (nat_lit 110, o110 P) :: (nat_lit 111, o111 P) :: (nat_lit 113, o113 P) :: (nat_lit 114, o114 P) :: (nat_lit 116, o116 P) ::
   (nat_lit 117, o117 P) :: (nat_lit 118, o118 P) :: (nat_lit 120, o120 P) :: (nat_lit 121, o121 P) :: (nat_lit 123, o123 P) :: (nat_lit 124, o124 P) :: (nat_lit 125, o125 P) :: (nat_lit 127, o127 P) ::
   (nat_lit 128, o128 P) :: (nat_lit 130, o130 P) :: (nat_lit 131, o131 P) :: (nat_lit 132, o132 P) :: (nat_lit 134, o134 P) :: (nat_lit 135, o135 P) :: (nat_lit 137, o137 P) :: (nat_lit 138, o138 P) ::
   (nat_lit 139, o139 P) :: (nat_lit 141, o141 P) :: (nat_lit 142, o142 P) :: (nat_lit 144, o144 P) :: (nat_lit 145, o145 P) :: (nat_lit 146, o146 P) :: (nat_lit 148, o148 P) :: (nat_lit 149, o149 P) ::
   (nat_lit 151, o151 P) :: (nat_lit 152, o152 P) :: (nat_lit 153, o153 P) :: (nat_lit 154, o154 P) :: (nat_lit 155, o155 P) :: (nat_lit 156, o156 P) :: (nat_lit 157, o157 P) :: (nat_lit 160, o160 P) ::
   (nat_lit 162, o162 P) :: (nat_lit 163, o163 P) :: (nat_lit 165, o165 P) :: (nat_lit 166, o166 P) :: (nat_lit 167, o167 P) :: (nat_lit 169, o169 P) :: (nat_lit 170, o170 P) :: (nat_lit 172, o172 P) ::
   (nat_lit 173, o173 P) :: (nat_lit 174, o174 P) :: (nat_lit 176, o176 P) :: (nat_lit 177, o177 P) :: (nat_lit 179, o179 P) :: (nat_lit 180, o180 P) :: (nat_lit 181, o181 P) :: (nat_lit 183, o183 P) ::
   (nat_lit 184, o184 P) :: (nat_lit 186, o186 P) :: (nat_lit 187, o187 P) :: (nat_lit 188, o188 P) :: (nat_lit 190, o190 P) :: (nat_lit 191, o191 P) :: (nat_lit 193, o193 P) :: (nat_lit 194, o194 P) ::
   (nat_lit 195, o195 P) :: (nat_lit 197, o197 P) :: (nat_lit 198, o198 P) :: (nat_lit 200, o200 P) :: (nat_lit 201, o201 P) :: (nat_lit 209, o209 P) :: (nat_lit 211, o211 P) :: (nat_lit 212, o212 P) ::
   (nat_lit 214, o214 P) :: (nat_lit 215, o215 P) :: (nat_lit 216, o216 P) :: (nat_lit 217, o217 P) :: (nat_lit 218, o218 P) :: (nat_lit 219, o219 P) :: (nat_lit 220, o220 P) :: (nat_lit 230, o230 P) ::
   (nat_lit 231, o231 P) :: (nat_lit 233, o233 P) :: (nat_lit 234, o234 P) :: (nat_lit 236, o236 P) :: (nat_lit 237, o237 P) :: (nat_lit 238, o238 P) :: (nat_lit 239, o239 P) :: (nat_lit 240, o240 P) ::
   (nat_lit 241, o241 P) :: (nat_lit 242, o242 P) :: (nat_lit 252, o252 P) :: (nat_lit 254, o254 P) :: (nat_lit 255, o255 P) :: (nat_lit 257, o257 P) :: (nat_lit 258, o258 P) :: (nat_lit 259, o259 P) ::
   (nat_lit 260, o260 P) :: (nat_lit 261, o261 P) :: (nat_lit 262, o262 P) :: (nat_lit 263, o263 P) :: (nat_lit 273, o273 P) :: (nat_lit 275, o275 P) :: (nat_lit 276, o276 P) :: (nat_lit 278, o278 P) ::
   (nat_lit 279, o279 P) :: (nat_lit 280, o280 P) :: (nat_lit 282, o282 P) :: (nat_lit 283, o283 P) :: (nat_lit 285, o285 P) :: (nat_lit 286, o286 P) :: (nat_lit 287, o287 P) :: (nat_lit 288, o288 P) ::
   (nat_lit 289, o289 P) :: (nat_lit 290, o290 P) :: (nat_lit 291, o291 P) :: (nat_lit 294, o294 P) :: (nat_lit 296, o296 P) :: (nat_lit 297, o297 P) :: (nat_lit 299, o299 P) :: (nat_lit 300, o300 P) ::
   (nat_lit 301, o301 P) :: (nat_lit 303, o303 P) :: (nat_lit 304, o304 P) :: (nat_lit 306, o306 P) :: (nat_lit 307, o307 P) :: (nat_lit 308, o308 P) :: (nat_lit 310, o310 P) :: (nat_lit 311, o311 P) ::
   (nat_lit 313, o313 P) :: (nat_lit 314, o314 P) :: (nat_lit 315, o315 P) :: (nat_lit 318, o318 P) :: (nat_lit 319, o319 P) :: (nat_lit 327, o327 P) :: (nat_lit 328, o328 P) :: (nat_lit 330, o330 P) ::
   (nat_lit 331, o331 P) :: (nat_lit 333, o333 P) :: (nat_lit 334, o334 P) :: (nat_lit 335, o335 P) :: (nat_lit 337, o337 P) :: (nat_lit 338, o338 P) :: (nat_lit 340, o340 P) :: (nat_lit 341, o341 P) ::
   (nat_lit 342, o342 P) :: (nat_lit 344, o344 P) :: (nat_lit 345, o345 P) :: (nat_lit 347, o347 P) :: (nat_lit 348, o348 P) :: (nat_lit 349, o349 P) :: (nat_lit 350, o350 P) :: (nat_lit 351, o351 P) ::
   (nat_lit 352, o352 P) :: (nat_lit 353, o353 P) :: (nat_lit 356, o356 P) :: (nat_lit 363, o363 P) :: (nat_lit 365, o365 P) :: (nat_lit 366, o366 P) :: (nat_lit 368, o368 P) :: (nat_lit 369, o369 P) ::
   (nat_lit 370, o370 P) :: (nat_lit 372, o372 P) :: (nat_lit 373, o373 P) :: (nat_lit 375, o375 P) :: (nat_lit 376, o376 P) :: (nat_lit 377, o377 P) :: (nat_lit 379, o379 P) :: (nat_lit 380, o380 P) ::
   (nat_lit 382, o382 P) :: (nat_lit 383, o383 P) :: (nat_lit 384, o384 P) :: (nat_lit 386, o386 P) :: (nat_lit 387, o387 P) :: (nat_lit 389, o389 P) :: (nat_lit 390, o390 P) :: (nat_lit 391, o391 P) ::
   (nat_lit 393, o393 P) :: (nat_lit 394, o394 P) :: (nat_lit 396, o396 P) :: (nat_lit 397, o397 P) :: (nat_lit 398, o398 P) :: (nat_lit 401, o401 P) :: (nat_lit 402, o402 P) :: (nat_lit 403, o403 P) ::
   (nat_lit 404, o404 P) :: (nat_lit 405, o405 P) :: (nat_lit 415, o415 P) :: (nat_lit 417, o417 P) :: (nat_lit 418, o418 P) :: (nat_lit 420, o420 P) :: (nat_lit 421, o421 P) :: (nat_lit 422, o422 P) ::
   (nat_lit 423, o423 P) :: (nat_lit 424, o424 P) :: (nat_lit 425, o425 P) :: (nat_lit 426, o426 P) :: (nat_lit 429, o429 P) :: (nat_lit 432, o432 P) :: (nat_lit 433, o433 P) :: (nat_lit 434, o434 P) ::
   (nat_lit 437, o437 P) :: (nat_lit 438, o438 P) :: (nat_lit 439, o439 P) :: (nat_lit 441, o441 P) :: (nat_lit 442, o442 P) :: (nat_lit 444, o444 P) :: (nat_lit 445, o445 P) :: (nat_lit 446, o446 P) ::
   (nat_lit 449, o449 P) :: (nat_lit 450, o450 P) :: (nat_lit 451, o451 P) :: (nat_lit 453, o453 P) :: (nat_lit 454, o454 P) :: (nat_lit 456, o456 P) :: (nat_lit 457, o457 P) :: (nat_lit 458, o458 P) ::
   (nat_lit 460, o460 P) :: (nat_lit 461, o461 P) :: (nat_lit 463, o463 P) :: (nat_lit 464, o464 P) :: (nat_lit 465, o465 P) :: (nat_lit 467, o467 P) :: (nat_lit 468, o468 P) :: (nat_lit 470, o470 P) ::
   (nat_lit 471, o471 P) :: (nat_lit 472, o472 P) :: (nat_lit 475, o475 P) :: (nat_lit 476, o476 P) :: (nat_lit 477, o477 P) :: (nat_lit 479, o479 P) :: (nat_lit 480, o480 P) :: (nat_lit 482, o482 P) ::
   (nat_lit 483, o483 P) :: (nat_lit 484, o484 P) :: (nat_lit 487, o487 P) :: (nat_lit 488, o488 P) :: (nat_lit 489, o489 P) :: (nat_lit 491, o491 P) :: (nat_lit 492, o492 P) :: (nat_lit 494, o494 P) ::
   (nat_lit 495, o495 P) :: (nat_lit 496, o496 P) :: (nat_lit 498, o498 P) :: (nat_lit 499, o499 P) :: (nat_lit 501, o501 P) :: (nat_lit 502, o502 P) :: (nat_lit 503, o503 P) :: (nat_lit 505, o505 P) ::
   (nat_lit 506, o506 P) :: (nat_lit 508, o508 P) :: (nat_lit 509, o509 P) :: (nat_lit 510, o510 P) :: (nat_lit 512, o512 P) :: (nat_lit 513, o513 P) :: (nat_lit 515, o515 P) :: (nat_lit 516, o516 P) :: []
noncomputable def KA : List Addr := [0, 1, 2, 3, 4, 5, 6, 7, 9, 10, 11, 13, 14, 15, 17, 18, 20, 21, 22, 29, 30, 32, 33, 35, 36, 37, 39, 40, 42, 43, 44, 45, 46, 47, 50, 57, 58, 59, 69, 71, 72, 74, 75, 76, 78, 79, 81, 82, 83, 85, 86, 88, 89, 90, 92, 93, 95, 96, 97, 99, 100, 102, 103, 104, 106, 107, 109, 110, 111, 113, 114, 116, 117, 118, 120, 121, 123, 124, 125, 127, 128, 130, 131, 132, 134, 135, 137, 138, 139, 141, 142, 144, 145, 146, 148, 149, 151, 152, 153, 154, 155, 156, 157, 160, 162, 163, 165, 166, 167, 169, 170, 172, 173, 174, 176, 177, 179, 180, 181, 183, 184, 186, 187, 188, 190, 191, 193, 194, 195, 197, 198, 200, 201, 209, 211, 212, 214, 215, 216, 217, 218, 219, 220, 230, 231, 233, 234, 236, 237, 238, 239, 240, 241, 242, 252, 254, 255, 257, 258, 259, 260, 261, 262, 263, 273, 275, 276, 278, 279, 280, 282, 283, 285, 286, 287, 288, 289, 290, 291, 294, 296, 297, 299, 300, 301, 303, 304, 306, 307, 308, 310, 311, 313, 314, 315, 318, 319, 327, 328, 330, 331, 333, 334, 335, 337, 338, 340, 341, 342, 344, 345, 347, 348, 349, 350, 351, 352, 353, 356, 363, 365, 366, 368, 369, 370, 372, 373, 375, 376, 377, 379, 380, 382, 383, 384, 386, 387, 389, 390, 391, 393, 394, 396, 397, 398, 401, 402, 403, 404, 405, 415, 417, 418, 420, 421, 422, 423, 424, 425, 426, 429, 432, 433, 434, 437, 438, 439, 441, 442, 444, 445, 446, 449, 450, 451, 453, 454, 456, 457, 458, 460, 461, 463, 464, 465, 467, 468, 470, 471, 472, 475, 476, 477, 479, 480, 482, 483, 484, 487, 488, 489, 491, 492, 494, 495, 496, 498, 499, 501, 502, 503, 505, 506, 508, 509, 510, 512, 513, 515, 516]
theorem ka_eq (P : Params) : KA = (KX P).map (·.1) := by kernel_rfl
theorem kx_reg : PySem.Challenge.rw_nn0125_01 = PySem.Challenge.rw_nn0125_01 ∧ KX = KX := by k_fill; exact ⟨rfl, rfl⟩
end
section
theorem rg_Head2 : True := by
  k_with_none
  (k_with "omA" => (first | (with_reducible (first | exact And.left ‹_› | exact And.left (And.right ‹_›) | exact And.left (And.right (And.right ‹_›)) | exact And.left (And.right (And.right (And.right ‹_›))) | exact And.left (And.right (And.right (And.right (And.right ‹_›)))) | exact And.left (And.right (And.right (And.right (And.right (And.right ‹_›))))) | exact And.left (And.right (And.right (And.right (And.right (And.right (And.right ‹_›)))))) | exact And.left (And.right (And.right (And.right (And.right (And.right (And.right (And.right ‹_›))))))) | exact And.left (And.right (And.right (And.right (And.right (And.right (And.right (And.right (And.right ‹_›)))))))) | exact And.left (And.right (And.right (And.right (And.right (And.right (And.right (And.right (And.right (And.right ‹_›))))))))) | exact And.left (And.right (And.right (And.right (And.right (And.right (And.right (And.right (And.right (And.right (And.right ‹_›)))))))))) | exact And.left (And.right (And.right (And.right (And.right (And.right (And.right (And.right (And.right (And.right (And.right (And.right ‹_›))))))))))) | exact And.left (And.right (And.right (And.right (And.right (And.right (And.right (And.right (And.right (And.right (And.right (And.right (And.right ‹_›)))))))))))) | exact And.left (And.right (And.right (And.right (And.right (And.right (And.right (And.right (And.right (And.right (And.right (And.right (And.right (And.right ‹_›))))))))))))) | exact And.left (And.right (And.right (And.right (And.right (And.right (And.right (And.right (And.right (And.right (And.right (And.right (And.right (And.right (And.right ‹_›)))))))))))))) | exact And.left (And.right (And.right (And.right (And.right (And.right (And.right (And.right (And.right (And.right (And.right (And.right (And.right (And.right (And.right (And.right ‹_›))))))))))))))) | exact And.left (And.right (And.right (And.right (And.right (And.right (And.right (And.right (And.right (And.right (And.right (And.right (And.right (And.right (And.right (And.right (And.right ‹_›)))))))))))))))) | exact And.right ‹_› | exact And.right (And.right ‹_›) | exact And.right (And.right (And.right ‹_›)) | exact And.right (And.right (And.right (And.right ‹_›))) | exact And.right (And.right (And.right (And.right (And.right ‹_›)))))) | fail))
  (k_with "omC" => (first | decide | fail))
  (k_with "omU" => (first | (k_extra "omC") | (with_reducible (first | exact o_le ‹_› (by decide) | exact o_lel ‹_› (by decide) | exact o_mul ‹_› (by decide) (by decide) | exact o_mull ‹_› (by decide) (by decide))) | ((with_reducible refine o_chl ‹_› ?_); k_extra "omU") | ((with_reducible refine o_addc ?_); k_extra "omU") | ((with_reducible refine o_subc ?_); k_extra "omU") | ((with_reducible refine o_subv ‹_› ?_); k_extra "omU") | ((with_reducible refine o_add2 ‹_› ?_); k_extra "omU") | ((with_reducible refine o_add2l ‹_› ?_); k_extra "omU") | ((with_reducible refine o_addl ?_); k_extra "omU") | ((with_reducible refine o_addm ‹_› (by decide) ?_); k_extra "omU") | fail))
  (k_with "omL" => (first | (k_extra "omC") | (with_reducible (first | exact o_ge ‹_› (by decide) | exact o_gel ‹_› (by decide) | exact o_gmul ‹_› (by decide) (by decide))) | ((with_reducible refine o_gaddc ?_); k_extra "omL") | ((with_reducible refine o_gsubc ?_); k_extra "omL") | ((with_reducible refine o_gsubv ‹_› ?_); k_extra "omL") | ((with_reducible refine o_gsubvl ‹_› ?_); k_extra "omL") | ((with_reducible refine o_gadd2 ‹_› ?_); k_extra "omL") | ((with_reducible refine o_gaddl ?_); k_extra "omL") | ((with_reducible refine o_gaddm ‹_› (by decide) ?_); k_extra "omL") | fail))
  (k_with "omR" => (first | (with_reducible (first | exact o_self (by decide))) | ((with_reducible refine o_ch ‹_› ?_); k_extra "omR") | ((with_reducible refine o_addch ?_); k_extra "omR") | fail))
  (k_with "omZ" => (first | (k_extra "omR") | (k_extra "omU") | (k_extra "omL") | fail))
  (k_with "omX" => (first | decide | (k_extra "omZ") | (with_reducible (first | exact Int.le_refl _ | exact Nat.le_refl _ | exact o_nle ‹_› (by decide) | exact o_nlt ‹_› (by decide) | exact o_nlel ‹_› (by decide))) | ((with_reducible refine o_ltc ?_); k_extra "omZ") | ((with_reducible refine o_gtc ?_); k_extra "omZ") | (with_reducible (first | exact o_iffn ‹_› ‹_› | exact o_neql ‹_› (by decide) | exact o_neqi ‹_› (by decide))) | ((with_reducible show _ < _); (first | (with_reducible exact Iff.mp ‹_› ‹_›) | k_extra "omA")) | ((repeat (rename _ ≠ _ => hz; clear hz)); (repeat (rename _ ≠ _ ∧ _ => hz; clear hz)); omega +splitDisjunctions) | fail))
  (k_with "omN" => (first | (with_reducible (first | exact o_n1 | exact o_n1' | exact o_ne ‹_› | exact o_ne' ‹_› | exact o_lt ‹_› | exact o_gt ‹_› | exact o_ne (by k_extra "omA") | exact o_ne' (by k_extra "omA") | exact o_lt (by k_extra "omA") | exact o_gt (by k_extra "omA") | exact o_lts1 (by k_extra "omA") | exact o_lts1' (by k_extra "omA") | exact o_lts2 (by k_extra "omA") | exact o_lts2' (by k_extra "omA") | exact o_gt2 ‹_› (by k_extra "omA") | exact o_lt2 ‹_› (by k_extra "omA"))) | fail))
  (k_with "om" => (first | with_reducible assumption | ((first | (with_reducible show _ ≤ _) | (with_reducible show _ < _)); k_extra "omX") | ((with_reducible show _ = _ → False); k_extra "omN") | fail))
  trivial
open PySem PySem.W PyProof.Rows PySem.Calls
set_option maxRecDepth 1000000
noncomputable def VW : Program := view PW [0, 2, 3, 5, 6, 7, 8, 9, 10, 11, 13, 14, 15, 16, 17, 18, 19, 20, 21, 22, 23, 24, 26, 27, 28, 29, 31, 32, 33, 34, 35, 36, 37, 38, 39, 40, 41]
noncomputable def LS : List Str := [Str.ofString "PaperError", Str.ofString "told_objects"]
theorem hook (P : Params) : KA = (KX P).map (·.1) := ka_eq P
theorem said : PySem.Challenge.rw_nn0125_01.wellSaid = true := by
  rw [Fast.te9446332074065402090]
  kernel_rfl
theorem one1 (w : World) (os : OsState) : (endT PW w (some (.ref 6)) 3800 os).map (fun s => staticsOk (importedModules PW.main.body) (boot_heap w.params) s.abs.heap && namesBound PW s.abs.heap && gensDone s.abs && laidKept (boot_heap w.params) s.abs.heap) = some true := by kernel_rfl
theorem one2 (w : World) (os : OsState) : (endT PW w (some (.ref 6)) 3800 os).map (fun s => openSeen VW LS (importedModules PW.main.body) (fun s => xlAt VW [] s && recOk (RowW.records PySem.Challenge.rw_nn0125_01.row.toRowW) s) true s.abs) = some (openGood VW LS) := by
  rw [Fast.te4187177175401517315]
  kernel_rfl
theorem one3 (w : World) (os : OsState) : (endT PW w (some (.ref 6)) 3800 os).map (fun s => Hook.obs (kHook KX KA hook) s.abs) = some (Hook.val (kHook KX KA hook) w) := by kernel_rfl
theorem left0 : LeftO PW VW LS (fun s => xlAt VW [] s && recOk (RowW.records PySem.Challenge.rw_nn0125_01.row.toRowW) s) (Hook.obs (kHook KX KA hook)) (Hook.val (kHook KX KA hook)) 7554 :=
  left_one (g0 := true) (M := 3800) open0 size0 (by decide) one1 one2 one3
theorem hx {d : DefRec} {kwd : List (Str × PySem.Expr)} (hd : defOf VW (Str.ofString "law") = some (d, kwd)) (hp : PW.theDef (Str.ofString "law") = some (d.params, d.body, d.scope)) (hk : kwWritten? d.params.kwonlyargs d.params.kw_defaults = some kwd)
    (call : WalkO VW LS (XL VW []) (kHook KX KA hook).says PySem.Challenge.rw_nn0125_01.row.toRowW d kwd fun f vs => PySem.call f vs) : PySem.Challenge.rw_nn0125_01.Holds := by
  refine holds_law said fun k1 => ?_
  refine holds_open (q := VW) (loose := LS) (Xt := fun s => xlAt VW [] s && recOk (RowW.records PySem.Challenge.rw_nn0125_01.row.toRowW) s) (XP := XL VW []) (Yf := Hook.obs (kHook KX KA hook)) (Ya := Hook.val (kHook KX KA hook)) (YP := Hook.says (kHook KX KA hook)) (N := 7554) left0 (Hook.of _) (Hook.keeps _) (fun s e => xl_of s (Bool.and_eq_true_iff.mp e).1) XL.keeps hd hp hk (fun s e => recFacts_of (Bool.and_eq_true_iff.mp e).2) rfl k1 (by decide +kernel) ⟨rfl, rfl, rfl, rfl, rfl, by decide +kernel⟩ ?hw call
  w_witness2
end
section
theorem rg_Om : True := by
  k_with_none
  
  trivial
theorem o_ch {x z y k n : Int} (h : x ≤ z + k) (h2 : z ≤ y + (n - k)) : x ≤ y + n := by omega
theorem o_chl {x z k n : Int} (h : x ≤ z + k) (h2 : z ≤ n - k) : x ≤ n := by omega
theorem o_addch {a b y n : Int} (h : a ≤ y + (n - b)) : a + b ≤ y + n := by omega
theorem o_self {y n : Int} (h : 0 ≤ n) : y ≤ y + n := by omega
theorem o_le {x B n : Int} (h : x ≤ B) (d : B ≤ n) : x ≤ n := Int.le_trans h d
theorem o_ge {x B n : Int} (h : B ≤ x) (d : n ≤ B) : n ≤ x := Int.le_trans d h
theorem o_lel {x B n : Int} (h : x < B) (d : B ≤ n + 1) : x ≤ n := by omega
theorem o_gel {x B n : Int} (h : B < x) (d : n ≤ B + 1) : n ≤ x := by omega
theorem o_ltc {x n : Int} (h : x ≤ n - 1) : x < n := by omega
theorem o_gtc {x n : Int} (h : n + 1 ≤ x) : n < x := by omega
theorem o_addc {a b n : Int} (h : a ≤ n - b) : a + b ≤ n := by omega
theorem o_gaddc {a b n : Int} (h : n - b ≤ a) : n ≤ a + b := by omega
theorem o_subc {a b n : Int} (h : a ≤ n + b) : a - b ≤ n := by omega
theorem o_gsubc {a b n : Int} (h : n + b ≤ a) : n ≤ a - b := by omega
theorem o_subv {a b B n : Int} (hb : B ≤ b) (d : a ≤ n + B) : a - b ≤ n := by omega
theorem o_gsubv {a b B n : Int} (hb : b ≤ B) (d : n + B ≤ a) : n ≤ a - b := by omega
theorem o_gsubvl {a b B n : Int} (hb : b < B) (d : n + B ≤ a + 1) : n ≤ a - b := by omega
theorem o_mul {a k B n : Int} (h : a ≤ B) (hk : 0 ≤ k) (d : k * B ≤ n) : k * a ≤ n := Int.le_trans (Int.mul_le_mul_of_nonneg_left h hk) d
theorem o_mull {a k B n : Int} (h : a < B) (hk : 0 ≤ k) (d : k * (B - 1) ≤ n) : k * a ≤ n := o_mul (Int.le_sub_one_of_lt h) hk d
theorem o_gmul {a k B n : Int} (h : B ≤ a) (hk : 0 ≤ k) (d : n ≤ k * B) : n ≤ k * a := Int.le_trans d (Int.mul_le_mul_of_nonneg_left h hk)
theorem o_add2 {a b B n : Int} (h : b ≤ B) (h2 : a ≤ n - B) : a + b ≤ n := by omega
theorem o_add2l {a b B n : Int} (h : b < B) (h2 : a ≤ n - B + 1) : a + b ≤ n := by omega
theorem o_gadd2 {a b B n : Int} (h : B ≤ b) (h2 : n - B ≤ a) : n ≤ a + b := by omega
theorem o_addl {a b n : Int} (h : b ≤ n - a) : a + b ≤ n := by omega
theorem o_gaddl {a b n : Int} (h : n - a ≤ b) : n ≤ a + b := by omega
theorem o_addm {a k b B n : Int} (hb : b ≤ B) (hk : 0 ≤ k) (h : a ≤ n - k * B) : a + k * b ≤ n := by
  have := Int.mul_le_mul_of_nonneg_left hb hk
  omega
theorem o_gaddm {a k b B n : Int} (hb : B ≤ b) (hk : 0 ≤ k) (h : n - k * B ≤ a) : n ≤ a + k * b := by
  have := Int.mul_le_mul_of_nonneg_left hb hk
  omega
theorem o_nle {x B n : Nat} (h : x ≤ B) (d : B ≤ n) : x ≤ n := Nat.le_trans h d
theorem o_nlt {x B n : Nat} (h : x ≤ B) (d : B < n) : x < n := Nat.lt_of_le_of_lt h d
theorem o_nlel {x B n : Nat} (h : x < B) (d : B ≤ n + 1) : x ≤ n := by omega
theorem o_ne {a b : Nat} (h : a ≠ b) : a = b → False := h
theorem o_ne' {a b : Nat} (h : b ≠ a) : a = b → False := fun e => h e.symm
theorem o_lt {a b : Nat} (h : a < b) : a = b → False := fun e => Nat.ne_of_lt h e
theorem o_gt {a b : Nat} (h : b < a) : a = b → False := fun e => Nat.ne_of_gt h e
theorem o_n1 {a : Nat} : a = a + 1 → False := fun e => Nat.ne_of_lt (Nat.lt_succ_self a) e
theorem o_n1' {a : Nat} : a + 1 = a → False := fun e => Nat.ne_of_lt (Nat.lt_succ_self a) e.symm
theorem o_lts1 {a b : Nat} (h : a < b) : a = b + 1 → False := fun e => Nat.ne_of_lt (Nat.lt_succ_of_lt h) e
theorem o_lts1' {a b : Nat} (h : a < b) : b + 1 = a → False := fun e => Nat.ne_of_lt (Nat.lt_succ_of_lt h) e.symm
theorem o_lts2 {a b : Nat} (h : a < b) : a = b + 1 + 1 → False := fun e => Nat.ne_of_lt (Nat.lt_succ_of_lt (Nat.lt_succ_of_lt h)) e
theorem o_lts2' {a b : Nat} (h : a < b) : b + 1 + 1 = a → False := fun e => Nat.ne_of_lt (Nat.lt_succ_of_lt (Nat.lt_succ_of_lt h)) e.symm
theorem o_gt2 {a b c : Nat} (h : b < c) (h2 : a < b) : c = a → False := fun e => Nat.ne_of_gt (Nat.lt_trans h2 h) e
theorem o_lt2 {a b c : Nat} (h : b < c) (h2 : a < b) : a = c → False := fun e => Nat.ne_of_lt (Nat.lt_trans h2 h) e
theorem o_iffn {p : Prop} {x y : Int} (h : p ↔ y < x) (n : ¬p) : x ≤ y := Int.not_lt.mp fun z => n (h.mpr z)
theorem o_neql {a b n : Nat} (h : b = n) (d : a < n) : a < b := h ▸ d
theorem o_neqi {a : Int} {b n : Nat} (h : b = n) (d : a < (n : Int)) : a < (b : Int) := h ▸ d
end
section
theorem rg_Base : True := by
  k_with_none
  (k_with "omA" => (first | (with_reducible (first | exact And.left ‹_› | exact And.left (And.right ‹_›) | exact And.left (And.right (And.right ‹_›)) | exact And.left (And.right (And.right (And.right ‹_›))) | exact And.left (And.right (And.right (And.right (And.right ‹_›)))) | exact And.left (And.right (And.right (And.right (And.right (And.right ‹_›))))) | exact And.left (And.right (And.right (And.right (And.right (And.right (And.right ‹_›)))))) | exact And.left (And.right (And.right (And.right (And.right (And.right (And.right (And.right ‹_›))))))) | exact And.left (And.right (And.right (And.right (And.right (And.right (And.right (And.right (And.right ‹_›)))))))) | exact And.left (And.right (And.right (And.right (And.right (And.right (And.right (And.right (And.right (And.right ‹_›))))))))) | exact And.left (And.right (And.right (And.right (And.right (And.right (And.right (And.right (And.right (And.right (And.right ‹_›)))))))))) | exact And.left (And.right (And.right (And.right (And.right (And.right (And.right (And.right (And.right (And.right (And.right (And.right ‹_›))))))))))) | exact And.left (And.right (And.right (And.right (And.right (And.right (And.right (And.right (And.right (And.right (And.right (And.right (And.right ‹_›)))))))))))) | exact And.left (And.right (And.right (And.right (And.right (And.right (And.right (And.right (And.right (And.right (And.right (And.right (And.right (And.right ‹_›))))))))))))) | exact And.left (And.right (And.right (And.right (And.right (And.right (And.right (And.right (And.right (And.right (And.right (And.right (And.right (And.right (And.right ‹_›)))))))))))))) | exact And.left (And.right (And.right (And.right (And.right (And.right (And.right (And.right (And.right (And.right (And.right (And.right (And.right (And.right (And.right (And.right ‹_›))))))))))))))) | exact And.left (And.right (And.right (And.right (And.right (And.right (And.right (And.right (And.right (And.right (And.right (And.right (And.right (And.right (And.right (And.right (And.right ‹_›)))))))))))))))) | exact And.right ‹_› | exact And.right (And.right ‹_›) | exact And.right (And.right (And.right ‹_›)) | exact And.right (And.right (And.right (And.right ‹_›))) | exact And.right (And.right (And.right (And.right (And.right ‹_›)))))) | fail))
  (k_with "omC" => (first | decide | fail))
  (k_with "omU" => (first | (k_extra "omC") | (with_reducible (first | exact o_le ‹_› (by decide) | exact o_lel ‹_› (by decide) | exact o_mul ‹_› (by decide) (by decide) | exact o_mull ‹_› (by decide) (by decide))) | ((with_reducible refine o_chl ‹_› ?_); k_extra "omU") | ((with_reducible refine o_addc ?_); k_extra "omU") | ((with_reducible refine o_subc ?_); k_extra "omU") | ((with_reducible refine o_subv ‹_› ?_); k_extra "omU") | ((with_reducible refine o_add2 ‹_› ?_); k_extra "omU") | ((with_reducible refine o_add2l ‹_› ?_); k_extra "omU") | ((with_reducible refine o_addl ?_); k_extra "omU") | ((with_reducible refine o_addm ‹_› (by decide) ?_); k_extra "omU") | fail))
  (k_with "omL" => (first | (k_extra "omC") | (with_reducible (first | exact o_ge ‹_› (by decide) | exact o_gel ‹_› (by decide) | exact o_gmul ‹_› (by decide) (by decide))) | ((with_reducible refine o_gaddc ?_); k_extra "omL") | ((with_reducible refine o_gsubc ?_); k_extra "omL") | ((with_reducible refine o_gsubv ‹_› ?_); k_extra "omL") | ((with_reducible refine o_gsubvl ‹_› ?_); k_extra "omL") | ((with_reducible refine o_gadd2 ‹_› ?_); k_extra "omL") | ((with_reducible refine o_gaddl ?_); k_extra "omL") | ((with_reducible refine o_gaddm ‹_› (by decide) ?_); k_extra "omL") | fail))
  (k_with "omR" => (first | (with_reducible (first | exact o_self (by decide))) | ((with_reducible refine o_ch ‹_› ?_); k_extra "omR") | ((with_reducible refine o_addch ?_); k_extra "omR") | fail))
  (k_with "omZ" => (first | (k_extra "omR") | (k_extra "omU") | (k_extra "omL") | fail))
  (k_with "omX" => (first | decide | (k_extra "omZ") | (with_reducible (first | exact Int.le_refl _ | exact Nat.le_refl _ | exact o_nle ‹_› (by decide) | exact o_nlt ‹_› (by decide) | exact o_nlel ‹_› (by decide))) | ((with_reducible refine o_ltc ?_); k_extra "omZ") | ((with_reducible refine o_gtc ?_); k_extra "omZ") | (with_reducible (first | exact o_iffn ‹_› ‹_› | exact o_neql ‹_› (by decide) | exact o_neqi ‹_› (by decide))) | ((with_reducible show _ < _); (first | (with_reducible exact Iff.mp ‹_› ‹_›) | k_extra "omA")) | ((repeat (rename _ ≠ _ => hz; clear hz)); (repeat (rename _ ≠ _ ∧ _ => hz; clear hz)); omega +splitDisjunctions) | fail))
  (k_with "omN" => (first | (with_reducible (first | exact o_n1 | exact o_n1' | exact o_ne ‹_› | exact o_ne' ‹_› | exact o_lt ‹_› | exact o_gt ‹_› | exact o_ne (by k_extra "omA") | exact o_ne' (by k_extra "omA") | exact o_lt (by k_extra "omA") | exact o_gt (by k_extra "omA") | exact o_lts1 (by k_extra "omA") | exact o_lts1' (by k_extra "omA") | exact o_lts2 (by k_extra "omA") | exact o_lts2' (by k_extra "omA") | exact o_gt2 ‹_› (by k_extra "omA") | exact o_lt2 ‹_› (by k_extra "omA"))) | fail))
  (k_with "om" => (first | with_reducible assumption | ((first | (with_reducible show _ ≤ _) | (with_reducible show _ < _)); k_extra "omX") | ((with_reducible show _ = _ → False); k_extra "omN") | fail))
  trivial
open PySem PySem.W PyProof.Rows PySem.Calls
abbrev Led := List (Addr × Obj)
abbrev kA (dp un : Nat) (gd : Option (List Code)) (outer : List Env) : Around := { handled := none, depth := dp, frames := some outer, guards := gd, units := un }

theorem wpAny_le {α : Type} {M : Model} {t : Sem α} {Q : α → Shared → Prop} {E : Value → Shared → Prop} {s : Shared} {dp dp' un un' : Nat} {gd : Option (List Code)} {outer : List Env}
    (h : wpAny M (kA dp' un' gd outer) t Q E s) (hd : dp ≤ dp') (hu : un ≤ un') : wpAny M (kA dp un gd outer) t Q E s :=
  fun Γ p hΓ => h Γ p ⟨hΓ.1, Nat.le_trans hΓ.2.1 hd, hΓ.2.2.1, hΓ.2.2.2.1, Nat.le_trans hΓ.2.2.2.2 hu⟩

theorem code_le {M : Model} {A : Around} {c : Code} {R : Result → Shared → Prop} {s : Shared} {dp un : Nat} {outer : List Env} (h : codeAny M (kA dp un A.guards outer) c R s)
    (hh : A.handled = none) (hd : A.depth ≤ dp) (hf : A.frames = some outer) (hu : A.units ≤ un) : codeAny M A c R s :=
  fun Γ p hc hΓ => h Γ p hc ⟨hΓ.1.trans hh, Nat.le_trans hΓ.2.1 hd, fun l hl => hΓ.2.2.1 l (hf.trans hl), hΓ.2.2.2.1, Nat.le_trans hΓ.2.2.2.2 hu⟩
theorem call_le {α : Type} {M : Model} {A : Around} {t : Sem α} {Q : α → Shared → Prop} {E : Value → Shared → Prop} {s : Shared} {dp un : Nat} {outer : List Env} (h : wpAny M (kA dp un A.guards outer) t Q E s)
    (hh : A.handled = none) (hd : A.depth ≤ dp) (hf : A.frames = some outer) (hu : A.units ≤ un) : wpAny M A t Q E s :=
  fun Γ p hΓ => h Γ p ⟨hΓ.1.trans hh, Nat.le_trans hΓ.2.1 hd, fun l hl => hΓ.2.2.1 l (hf.trans hl), hΓ.2.2.2.1, Nat.le_trans hΓ.2.2.2.2 hu⟩
def RetOk (Q : Value → Shared → Prop) (r : Result) (s' : Shared) : Prop := match r with
  | .ok (.ret v) => Q v s'
  | _ => False

structure Wd (w : World) (p : Program) (loose : List Str) (mean : ExcName → Option Value) (mg mb : Str → Option Value) (base : Heap) : Prop where
  X : (KX w.params).In base
  T : Top p loose mean mg mb base

structure Cx (w : World) (p : Program) (loose : List Str) (mean : ExcName → Option Value) (mg mb : Str → Option Value) (base : Heap) (outer : List Env) (h : Heap) : Prop where
  W : Wd w p loose mean mg mb base
  stays : base.StaysIn h
  frames : h.FunFrames base outer

def LedOk (base : Heap) (outer : List Env) (h : Heap) (led : Led) : Prop :=
  ∀ q ∈ led, h.get? q.1 = some q.2 ∧ base.get? q.1 = none ∧ ∀ env ∈ outer, env.frame ≠ some q.1

structure Ground (s : Shared) (led : Led) (g : Heap) : Prop where
  keep : ∀ b o, s.heap.get? b = some o → b ∉ led.map (·.1) → g.get? b = some o
  of : ∀ b o, g.get? b = some o → s.heap.get? b = some o ∧ b ∉ led.map (·.1)

section
variable {w : World} {p : Program} {loose : List Str} {mean : ExcName → Option Value} {mg mb : Str → Option Value} {base : Heap} {outer : List Env} {s : Shared} {led : Led}

theorem enter {dp un : Nat} {gd : Option (List Code)} {R : Result → Shared → Prop} {name qual : Str} {params : Arguments} {body : List Stmt} {scope : Scope} {dV kV doc pm cdv ct oc : Value} {an od : Option Addr} {osl : Array (Option Value)} {f : Addr} {args : Args} {binds : List (Str × Value)}
    (C : Cx w p loose mean mg mb base outer s.heap) (hl : LedOk base outer s.heap led)
    (ho : (KX w.params).lookup f = some ⟨oc, od, .func (fnOf name qual params body scope dV kV doc pm an cdv ct), osl⟩) (hcd : codeIn (KX w.params) cdv qual = true) (hroom : dp < recursionLimit)
    (hbind : BindsTo s (fnOf name qual params body scope dV kV doc pm an cdv ct) args binds) (hloc : ∀ y ∈ binds, scope.names.lookup y.1 = some .local)
    (h : ∀ g L' h₁, Ground s led g → L' = s.heap.objs.size → Fr g L' h₁ (fun y => binds.reverse.lookup y) → News g L' h₁ led → Below (kA dp un gd outer) base outer g → (KX w.params).In g → Top p loose mean mg mb g →
      wpAny (model PW w) ((kA dp un gd outer).deeper (envOf qual scope L' f cdv)) (execs body (envOf qual scope L' f cdv))
        (fun fl s' => R (.ok (.ret (match fl with | .ret v => v | _ => .none))) s')
        (fun e s' => wpAny (model PW w) ((kA dp un gd outer).deeper (envOf qual scope L' f cdv)) (leaving (envOf qual scope L' f cdv) e) (fun _ s'' => R (.error e) s'') (fun e' s'' => R (.error e') s'') s')
        { s with heap := h₁, toks := s.toks + binds.length })
    (hco : scope.isCoroutine = false) (hgen : scope.isGenerator = false) (hk : scope.kind = .function)
    (hcell : ∀ x ∈ scope.names, x.2 ≠ .cell) : codeAny (model PW w) (kA dp un gd outer) (.call (.ref f) args) R s := by
  have st : ∀ b o, base.get? b = some o → (hideAll s.heap (led.map fun q : Addr × Obj => q.1)).get? b = some o := fun b o e => hideAll_get _ (C.stays b o e) fun q => by
    obtain ⟨r, hr, e2⟩ := List.mem_map.mp q
    have := (hl r hr).2.1
    rw [e2, e] at this; cases this
  have hlim := C.W.T.nolimit
  refine codeAny_call_def (fd := fnOf name qual params body scope dV kV doc pm an cdv ct) (body := body) (binds := binds) hroom ((C.W.X.keeps C.stays) _ _ ho) rfl (hlim.keeps C.stays) (codeRec_of (C.W.X.keeps C.stays) hcd) rfl hbind hcell hloc (fun h₁ hns hk₁ => ?_) hco hgen hk
  refine h (hideAll s.heap (led.map fun q : Addr × Obj => q.1)) _ h₁ ⟨fun b o e n => hideAll_get _ e n, fun b o e => ⟨of_hideAll _ e, fun q => by rw [hideAll_none _ q] at e; cases e⟩⟩ rfl ⟨hns, fun b o e => hk₁ b o (of_hideAll _ e), Nat.le_of_eq (hideAll_size _ _)⟩
    (fun q hq => ⟨hk₁ _ _ (hl q hq).1, Nat.ne_of_lt (Heap.lt_size (hl q hq).1), hideAll_none _ (List.mem_map_of_mem hq)⟩)
    ⟨rfl, st, funFrames_hideAll C.frames fun env he b hb hf => ?_⟩ (C.W.X.keeps st) (C.W.T.keeps st)
  obtain ⟨r, hr, rfl⟩ := List.mem_map.mp hb
  exact (hl r hr).2.2 env he hf

theorem enterC {dp un : Nat} {gd : Option (List Code)} {R : Result → Shared → Prop} {name qual : Str} {params : Arguments} {body : List Stmt} {scope : Scope} {dV kV doc pm cdv ct oc : Value} {an od : Option Addr} {osl : Array (Option Value)} {f : Addr} {args : Args} {binds : List (Str × Value)}
    (C : Cx w p loose mean mg mb base outer s.heap) (hl : LedOk base outer s.heap led)
    (ho : (KX w.params).lookup f = some ⟨oc, od, .func (fnOf name qual params body scope dV kV doc pm an cdv ct), osl⟩) (hcd : codeIn (KX w.params) cdv qual = true) (hroom : dp < recursionLimit)
    (hbind : BindsTo s (fnOf name qual params body scope dV kV doc pm an cdv ct) args binds) (hkind : (binds.all fun y => scope.names.lookup y.1 == some .local || scope.names.lookup y.1 == some .cell) = true) (hnd : ((cellsFrom 0 scope.names []).map (·.1)).Nodup)
    (h : ∀ g L' h₁ tk cells, Ground s led g → Fr g L' h₁ (bindL (envOfC qual scope L' f cdv).kindOf binds fun _ => none) → News g L' h₁ (cells ++ led) → CellsAre (bindC (envOfC qual scope L' f cdv).kindOf binds fun _ => none) (cellsFrom (L' + 1) scope.names []) cells → (∀ q ∈ led, q.1 < L') → Below (kA dp un gd outer) base outer g → (KX w.params).In g → Top p loose mean mg mb g →
      wpAny (model PW w) ((kA dp un gd outer).deeper (envOfC qual scope L' f cdv)) (execs body (envOfC qual scope L' f cdv))
        (fun fl s' => R (.ok (.ret (match fl with | .ret v => v | _ => .none))) s')
        (fun e s' => wpAny (model PW w) ((kA dp un gd outer).deeper (envOfC qual scope L' f cdv)) (leaving (envOfC qual scope L' f cdv) e) (fun _ s'' => R (.error e) s'') (fun e' s'' => R (.error e') s'') s')
        { s with heap := h₁, toks := tk })
    (hco : scope.isCoroutine = false) (hgen : scope.isGenerator = false) (hk : scope.kind = .function) : codeAny (model PW w) (kA dp un gd outer) (.call (.ref f) args) R s := by
  have st : ∀ b o, base.get? b = some o → (hideAll s.heap (led.map fun q : Addr × Obj => q.1)).get? b = some o := fun b o e => hideAll_get _ (C.stays b o e) fun q => by
    obtain ⟨r, hr, e2⟩ := List.mem_map.mp q
    have := (hl r hr).2.1
    rw [e2, e] at this; cases this
  have hlim := C.W.T.nolimit
  have C' : Below (kA dp un gd outer) base outer (hideAll s.heap (led.map fun q : Addr × Obj => q.1)) := ⟨rfl, st, funFrames_hideAll C.frames fun env he b hb hf => by
    obtain ⟨r, hr, rfl⟩ := List.mem_map.mp hb
    exact (hl r hr).2.2 env he hf⟩
  refine codeAny_call_function hroom ((C.W.X.keeps C.stays) _ _ ho) rfl hco hgen rfl (codeRec_of (C.W.X.keeps C.stays) hcd) (hbind _ _ _ _ ?_)
  refine wpAny_newFunctionEnv_cells hk (kindsX hkind _) fun env' he s' x => ?_
  subst he
  refine ⟨(hlim.keeps C.stays).keeps x.toInCall.keep, codeAny_func ?_⟩
  obtain ⟨h₁, tk, rfl, _⟩ := x.done
  have hk₁ := x.toInCall.keep
  obtain ⟨cells, NC, Y⟩ := Cl.news (h₀ := s.heap) (Nat.le_refl _) fun n c hm => ⟨x.cell n c (lookup_of_mem_nodup (cellsFrom_names scope.names 0 (s.heap.objs.size + 1) [] [] rfl ▸ hnd) hm), x.above n c hm⟩
  refine h _ s.heap.objs.size h₁ tk cells ⟨fun b o e n => hideAll_get _ e n, fun b o e => ⟨of_hideAll _ e, fun q => by rw [hideAll_none _ q] at e; cases e⟩⟩ ⟨x.toInCall.ns, fun b o e => hk₁ b o (of_hideAll _ e), Nat.le_of_eq (hideAll_size _ _)⟩ (fun q hq => ?_) Y (fun q hq => Heap.lt_size (hl q hq).1) C' (C.W.X.keeps st) (C.W.T.keeps st)
  rcases List.mem_append.mp hq with hq | hq
  · refine ⟨(NC q hq).1, (NC q hq).2.1, ?_⟩
    cases z : (hideAll s.heap (led.map fun q : Addr × Obj => q.1)).get? q.1 with
    | none => rfl
    | some o => have := of_hideAll _ z; rw [(NC q hq).2.2] at this; cases this
  · exact ⟨hk₁ _ _ (hl q hq).1, Nat.ne_of_lt (Heap.lt_size (hl q hq).1), hideAll_none _ (List.mem_map_of_mem hq)⟩

theorem keep_of {g h' : Heap} {L' : Addr} {m' : Str → Option Value} {all : Led} {mt : List Addr} (G : Ground s led g) (hl : LedOk base outer s.heap led) (F : Fr g L' h' m') (N : News g L' h' all) (hk : ∀ q ∈ led, q.1 ∉ mt → q ∈ all) :
    ∀ b o, s.heap.get? b = some o → b ∉ mt → h'.get? b = some o := by
  intro b o e hm
  by_cases hb : b ∈ led.map (·.1)
  · obtain ⟨q, hq, rfl⟩ := List.mem_map.mp hb
    have e1 := (hl q hq).1
    rw [e] at e1
    cases e1
    exact (N q (hk q hq hm)).1
  · exact F.keep b o (G.keep b o e hb)
theorem new_of {g h' : Heap} {L' : Addr} {all : Led} {q : Addr × Obj} (G : Ground s led g) (N : News g L' h' all) (hq : q ∈ all) (hn : q.1 ∉ led.map (·.1)) : h'.get? q.1 = some q.2 ∧ s.heap.get? q.1 = none := by
  refine ⟨(N q hq).1, ?_⟩
  cases e : s.heap.get? q.1 with
  | none => rfl
  | some o => have := G.keep _ _ e hn; rw [(N q hq).2.2] at this; cases this
end

def Ok (s : Shared) (mt : List Addr) (Post : Led → Value → Prop) (r : Value) (s' : Shared) : Prop :=
  ∃ h' tk' nw, s' = { s with heap := h', toks := tk' } ∧ (∀ b o, s.heap.get? b = some o → b ∉ mt → h'.get? b = some o) ∧
    (∀ q ∈ nw, h'.get? q.1 = some q.2 ∧ (s.heap.get? q.1 = none ∨ q.1 ∈ mt)) ∧ Post nw r
def Never (_ : Value) (_ : Shared) : Prop := False

section
variable {M : Model} {A : Around} {t : Sem Value} {s : Shared} {mt : List Addr} {Post : Led → Value → Prop} {h₀ : Heap} {L : Addr} {m : Str → Option Value} {news rest : Led} {Q : Value → Shared → Prop} {E : Value → Shared → Prop}
theorem use_ok (c : wpAny M A t (Ok s mt Post) Never s) (F : Fr h₀ L s.heap m) (N : News h₀ L s.heap news) (hr : ∀ q ∈ rest, q ∈ news ∧ q.1 ∉ mt) (hm : ∀ a ∈ mt, h₀.get? a = none ∧ a ≠ L)
    (k : ∀ r h' tk' nw, Fr h₀ L h' m → News h₀ L h' (nw ++ rest) → (∀ q ∈ nw, ∀ x ∈ rest, x.1 ≠ q.1) → Post nw r → Q r { s with heap := h', toks := tk' }) : wpAny M A t Q E s := by
  refine wpAny_mono c (fun r s' hok => ?_) fun _ _ x => x.elim
  obtain ⟨h', tk', nw, rfl, hk, hn, hp⟩ := hok
  have keep : ∀ b o, h₀.get? b = some o → h'.get? b = some o := fun b o e => hk b o (F.keep b o e) fun q => by rw [(hm b q).1] at e; cases e
  obtain ⟨oL, es, ep, hL, hLd⟩ := F.ns
  have hL' := hk L oL hL fun q => (hm L q).2 rfl
  refine k r h' tk' nw ⟨⟨oL, es, ep, hL', hLd⟩, keep, F.above⟩ (fun q hq => ?_) (fun q hq x hx => ?_) hp
  · rcases List.mem_append.mp hq with hq | hq
    · obtain ⟨a1, a2⟩ := hn q hq
      rcases a2 with a2 | a2
      · refine ⟨a1, fun e => ?_, ?_⟩
        · rw [e, hL] at a2; cases a2
        · cases e : h₀.get? q.1 with
          | none => rfl
          | some o => rw [F.keep _ _ e] at a2; cases a2
      · exact ⟨a1, (hm _ a2).2, (hm _ a2).1⟩
    · obtain ⟨b1, b2⟩ := hr q hq
      obtain ⟨c1, c2, c3⟩ := N q b1
      exact ⟨hk _ _ c1 b2, c2, c3⟩
  · obtain ⟨b1, b2⟩ := hr x hx
    obtain ⟨a1, a2⟩ := hn q hq
    rintro e
    rcases a2 with a2 | a2
    · rw [← e, (N x b1).1] at a2; cases a2
    · exact b2 (e ▸ a2)
end
def EnvAt (env : Env) (L : Addr) : Prop := env.frame = some L ∧ env.scope.kind = .function
theorem cx_of {w : World} {p : Program} {loose : List Str} {mean : ExcName → Option Value} {mg mb : Str → Option Value} {base h₀ h : Heap} {outer : List Env} {A : Around} {L : Addr} {m : Str → Option Value} {env : Env}
    (W : Wd w p loose mean mg mb base) (B : Below A base outer h₀) (F : Fr h₀ L h m) (hk : EnvAt env L) : Cx w p loose mean mg mb base (env :: outer) h := by
  have hnew : base.get? L = none := by
    cases hq : base.get? L with
    | none => rfl
    | some o => exact absurd (Nat.lt_of_lt_of_le (Heap.lt_size (B.stays L o hq)) F.above) (Nat.lt_irrefl _)
  exact ⟨W, fun b o e => F.keep b o (B.stays b o e), .cons (by rw [hk.2]; decide) hk.1 F.ns hnew (B.frames.of_keeps fun b o e _ => ⟨o, F.keep b o e, rfl⟩)⟩
theorem led_of {base h₀ h : Heap} {outer : List Env} {A : Around} {L : Addr} {m : Str → Option Value} {env : Env} {news led : Led} (hk : EnvAt env L)
    (B : Below A base outer h₀) (uF : Fr h₀ L h m) (N : News h₀ L h news) (hl : ∀ q ∈ led, q ∈ news) : LedOk base (env :: outer) h led := fun q hq => by
  obtain ⟨a1, a2, a3⟩ := N q (hl q hq)
  refine ⟨a1, fresh_of_stays B.stays a3, fun env' he hf => ?_⟩
  rcases List.mem_cons.mp he with rfl | he
  · rw [hk.1] at hf; exact a2 (Option.some.inj hf).symm
  · obtain ⟨L₁, o₁, hf₁, ho₁⟩ := funFrames_in B.frames env' he
    rw [hf₁] at hf
    cases hf
    rw [a3] at ho₁; cases ho₁
end
section
theorem rg_Lt : True := by
  k_with_none
  (k_with "omA" => (first | (with_reducible (first | exact And.left ‹_› | exact And.left (And.right ‹_›) | exact And.left (And.right (And.right ‹_›)) | exact And.left (And.right (And.right (And.right ‹_›))) | exact And.left (And.right (And.right (And.right (And.right ‹_›)))) | exact And.left (And.right (And.right (And.right (And.right (And.right ‹_›))))) | exact And.left (And.right (And.right (And.right (And.right (And.right (And.right ‹_›)))))) | exact And.left (And.right (And.right (And.right (And.right (And.right (And.right (And.right ‹_›))))))) | exact And.left (And.right (And.right (And.right (And.right (And.right (And.right (And.right (And.right ‹_›)))))))) | exact And.left (And.right (And.right (And.right (And.right (And.right (And.right (And.right (And.right (And.right ‹_›))))))))) | exact And.left (And.right (And.right (And.right (And.right (And.right (And.right (And.right (And.right (And.right (And.right ‹_›)))))))))) | exact And.left (And.right (And.right (And.right (And.right (And.right (And.right (And.right (And.right (And.right (And.right (And.right ‹_›))))))))))) | exact And.left (And.right (And.right (And.right (And.right (And.right (And.right (And.right (And.right (And.right (And.right (And.right (And.right ‹_›)))))))))))) | exact And.left (And.right (And.right (And.right (And.right (And.right (And.right (And.right (And.right (And.right (And.right (And.right (And.right (And.right ‹_›))))))))))))) | exact And.left (And.right (And.right (And.right (And.right (And.right (And.right (And.right (And.right (And.right (And.right (And.right (And.right (And.right (And.right ‹_›)))))))))))))) | exact And.left (And.right (And.right (And.right (And.right (And.right (And.right (And.right (And.right (And.right (And.right (And.right (And.right (And.right (And.right (And.right ‹_›))))))))))))))) | exact And.left (And.right (And.right (And.right (And.right (And.right (And.right (And.right (And.right (And.right (And.right (And.right (And.right (And.right (And.right (And.right (And.right ‹_›)))))))))))))))) | exact And.right ‹_› | exact And.right (And.right ‹_›) | exact And.right (And.right (And.right ‹_›)) | exact And.right (And.right (And.right (And.right ‹_›))) | exact And.right (And.right (And.right (And.right (And.right ‹_›)))))) | fail))
  (k_with "omC" => (first | decide | fail))
  (k_with "omU" => (first | (k_extra "omC") | (with_reducible (first | exact o_le ‹_› (by decide) | exact o_lel ‹_› (by decide) | exact o_mul ‹_› (by decide) (by decide) | exact o_mull ‹_› (by decide) (by decide))) | ((with_reducible refine o_chl ‹_› ?_); k_extra "omU") | ((with_reducible refine o_addc ?_); k_extra "omU") | ((with_reducible refine o_subc ?_); k_extra "omU") | ((with_reducible refine o_subv ‹_› ?_); k_extra "omU") | ((with_reducible refine o_add2 ‹_› ?_); k_extra "omU") | ((with_reducible refine o_add2l ‹_› ?_); k_extra "omU") | ((with_reducible refine o_addl ?_); k_extra "omU") | ((with_reducible refine o_addm ‹_› (by decide) ?_); k_extra "omU") | fail))
  (k_with "omL" => (first | (k_extra "omC") | (with_reducible (first | exact o_ge ‹_› (by decide) | exact o_gel ‹_› (by decide) | exact o_gmul ‹_› (by decide) (by decide))) | ((with_reducible refine o_gaddc ?_); k_extra "omL") | ((with_reducible refine o_gsubc ?_); k_extra "omL") | ((with_reducible refine o_gsubv ‹_› ?_); k_extra "omL") | ((with_reducible refine o_gsubvl ‹_› ?_); k_extra "omL") | ((with_reducible refine o_gadd2 ‹_› ?_); k_extra "omL") | ((with_reducible refine o_gaddl ?_); k_extra "omL") | ((with_reducible refine o_gaddm ‹_› (by decide) ?_); k_extra "omL") | fail))
  (k_with "omR" => (first | (with_reducible (first | exact o_self (by decide))) | ((with_reducible refine o_ch ‹_› ?_); k_extra "omR") | ((with_reducible refine o_addch ?_); k_extra "omR") | fail))
  (k_with "omZ" => (first | (k_extra "omR") | (k_extra "omU") | (k_extra "omL") | fail))
  (k_with "omX" => (first | decide | (k_extra "omZ") | (with_reducible (first | exact Int.le_refl _ | exact Nat.le_refl _ | exact o_nle ‹_› (by decide) | exact o_nlt ‹_› (by decide) | exact o_nlel ‹_› (by decide))) | ((with_reducible refine o_ltc ?_); k_extra "omZ") | ((with_reducible refine o_gtc ?_); k_extra "omZ") | (with_reducible (first | exact o_iffn ‹_› ‹_› | exact o_neql ‹_› (by decide) | exact o_neqi ‹_› (by decide))) | ((with_reducible show _ < _); (first | (with_reducible exact Iff.mp ‹_› ‹_›) | k_extra "omA")) | ((repeat (rename _ ≠ _ => hz; clear hz)); (repeat (rename _ ≠ _ ∧ _ => hz; clear hz)); omega +splitDisjunctions) | fail))
  (k_with "omN" => (first | (with_reducible (first | exact o_n1 | exact o_n1' | exact o_ne ‹_› | exact o_ne' ‹_› | exact o_lt ‹_› | exact o_gt ‹_› | exact o_ne (by k_extra "omA") | exact o_ne' (by k_extra "omA") | exact o_lt (by k_extra "omA") | exact o_gt (by k_extra "omA") | exact o_lts1 (by k_extra "omA") | exact o_lts1' (by k_extra "omA") | exact o_lts2 (by k_extra "omA") | exact o_lts2' (by k_extra "omA") | exact o_gt2 ‹_› (by k_extra "omA") | exact o_lt2 ‹_› (by k_extra "omA"))) | fail))
  (k_with "om" => (first | with_reducible assumption | ((first | (with_reducible show _ ≤ _) | (with_reducible show _ < _)); k_extra "omX") | ((with_reducible show _ = _ → False); k_extra "omN") | fail))
  trivial
open PySem PySem.W PyProof.Rows PySem.Calls
theorem allLt_mem {d : Nat} {l : Led} : AllLt d l → ∀ q ∈ l, q.1 < d := by
  induction l with
  | nil => exact fun _ _ h => nomatch h
  | cons p l ih =>
    intro h q hq
    rcases List.mem_cons.mp hq with rfl | hq
    · exact h.1
    · exact ih h.2 q hq
theorem ne_all {a b : Addr} {o : Obj} {l : Led} (h : AllLt b l) (m : (a, o) ∈ l) : a ≠ b := Nat.ne_of_lt (allLt_mem h _ m)
theorem ne_all' {a b : Addr} {o : Obj} {l : Led} (h : AllLt a l) (m : (b, o) ∈ l) : a ≠ b := Nat.ne_of_gt (allLt_mem h _ m)
theorem ne_l {a b : Nat} (h : a < b) : a ≠ b := Nat.ne_of_lt h
theorem ne_g {a b : Nat} (h : b < a) : a ≠ b := Nat.ne_of_gt h
theorem ne_all2 {a b : Addr} {d : Nat} {o : Obj} {l : Led} (g : d < b) (h : AllLt d l) (m : (a, o) ∈ l) : a ≠ b := Nat.ne_of_lt (Nat.lt_trans (allLt_mem h _ m) g)
theorem ne_all2' {a b : Addr} {d : Nat} {o : Obj} {l : Led} (g : d < a) (h : AllLt d l) (m : (b, o) ∈ l) : a ≠ b := Nat.ne_of_gt (Nat.lt_trans (allLt_mem h _ m) g)
theorem ne_s1 {a d : Addr} {o : Obj} {l : Led} (h : AllLt d l) (m : (a, o) ∈ l) : a ≠ d + 1 := Nat.ne_of_lt (Nat.lt_succ_of_lt (allLt_mem h _ m))
theorem ne_s2 {a d : Addr} {o : Obj} {l : Led} (h : AllLt d l) (m : (a, o) ∈ l) : a ≠ d + 1 + 1 := Nat.ne_of_lt (Nat.lt_succ_of_lt (Nat.lt_succ_of_lt (allLt_mem h _ m)))
theorem ne_s1' {a d : Addr} {o : Obj} {l : Led} (h : AllLt d l) (m : (a, o) ∈ l) : d + 1 ≠ a := (ne_s1 h m).symm
theorem ne_s2' {a d : Addr} {o : Obj} {l : Led} (h : AllLt d l) (m : (a, o) ∈ l) : d + 1 + 1 ≠ a := (ne_s2 h m).symm
theorem ne_ss {a : Nat} : a + 1 ≠ a + 1 + 1 := Nat.ne_of_lt (Nat.lt_succ_self _)
theorem ne_ss' {a : Nat} : a + 1 + 1 ≠ a + 1 := Nat.ne_of_gt (Nat.lt_succ_self _)
theorem ne_m1 {a x y z : Nat} {o : Obj} {l : Led} (h : ∀ q ∈ l, @Ne Nat q.1 x ∧ @Ne Nat q.1 y ∧ @Ne Nat q.1 z) (m : (a, o) ∈ l) : @Ne Nat a x := (h _ m).1
theorem ne_m2 {a x y z : Nat} {o : Obj} {l : Led} (h : ∀ q ∈ l, @Ne Nat q.1 x ∧ @Ne Nat q.1 y ∧ @Ne Nat q.1 z) (m : (a, o) ∈ l) : @Ne Nat a y := (h _ m).2.1
theorem ne_m3 {a x y z : Nat} {o : Obj} {l : Led} (h : ∀ q ∈ l, @Ne Nat q.1 x ∧ @Ne Nat q.1 y ∧ @Ne Nat q.1 z) (m : (a, o) ∈ l) : @Ne Nat a z := (h _ m).2.2
theorem ne_m1' {a x y z : Nat} {o : Obj} {l : Led} (h : ∀ q ∈ l, @Ne Nat q.1 x ∧ @Ne Nat q.1 y ∧ @Ne Nat q.1 z) (m : (a, o) ∈ l) : @Ne Nat x a := (h _ m).1.symm
theorem ne_m2' {a x y z : Nat} {o : Obj} {l : Led} (h : ∀ q ∈ l, @Ne Nat q.1 x ∧ @Ne Nat q.1 y ∧ @Ne Nat q.1 z) (m : (a, o) ∈ l) : @Ne Nat y a := (h _ m).2.1.symm
theorem ne_m3' {a x y z : Nat} {o : Obj} {l : Led} (h : ∀ q ∈ l, @Ne Nat q.1 x ∧ @Ne Nat q.1 y ∧ @Ne Nat q.1 z) (m : (a, o) ∈ l) : @Ne Nat z a := (h _ m).2.2.symm
end
section
theorem rg_Rules : True := by
  k_with_none
  (k_with "omA" => (first | (with_reducible (first | exact And.left ‹_› | exact And.left (And.right ‹_›) | exact And.left (And.right (And.right ‹_›)) | exact And.left (And.right (And.right (And.right ‹_›))) | exact And.left (And.right (And.right (And.right (And.right ‹_›)))) | exact And.left (And.right (And.right (And.right (And.right (And.right ‹_›))))) | exact And.left (And.right (And.right (And.right (And.right (And.right (And.right ‹_›)))))) | exact And.left (And.right (And.right (And.right (And.right (And.right (And.right (And.right ‹_›))))))) | exact And.left (And.right (And.right (And.right (And.right (And.right (And.right (And.right (And.right ‹_›)))))))) | exact And.left (And.right (And.right (And.right (And.right (And.right (And.right (And.right (And.right (And.right ‹_›))))))))) | exact And.left (And.right (And.right (And.right (And.right (And.right (And.right (And.right (And.right (And.right (And.right ‹_›)))))))))) | exact And.left (And.right (And.right (And.right (And.right (And.right (And.right (And.right (And.right (And.right (And.right (And.right ‹_›))))))))))) | exact And.left (And.right (And.right (And.right (And.right (And.right (And.right (And.right (And.right (And.right (And.right (And.right (And.right ‹_›)))))))))))) | exact And.left (And.right (And.right (And.right (And.right (And.right (And.right (And.right (And.right (And.right (And.right (And.right (And.right (And.right ‹_›))))))))))))) | exact And.left (And.right (And.right (And.right (And.right (And.right (And.right (And.right (And.right (And.right (And.right (And.right (And.right (And.right (And.right ‹_›)))))))))))))) | exact And.left (And.right (And.right (And.right (And.right (And.right (And.right (And.right (And.right (And.right (And.right (And.right (And.right (And.right (And.right (And.right ‹_›))))))))))))))) | exact And.left (And.right (And.right (And.right (And.right (And.right (And.right (And.right (And.right (And.right (And.right (And.right (And.right (And.right (And.right (And.right (And.right ‹_›)))))))))))))))) | exact And.right ‹_› | exact And.right (And.right ‹_›) | exact And.right (And.right (And.right ‹_›)) | exact And.right (And.right (And.right (And.right ‹_›))) | exact And.right (And.right (And.right (And.right (And.right ‹_›)))))) | fail))
  (k_with "omC" => (first | decide | fail))
  (k_with "omU" => (first | (k_extra "omC") | (with_reducible (first | exact o_le ‹_› (by decide) | exact o_lel ‹_› (by decide) | exact o_mul ‹_› (by decide) (by decide) | exact o_mull ‹_› (by decide) (by decide))) | ((with_reducible refine o_chl ‹_› ?_); k_extra "omU") | ((with_reducible refine o_addc ?_); k_extra "omU") | ((with_reducible refine o_subc ?_); k_extra "omU") | ((with_reducible refine o_subv ‹_› ?_); k_extra "omU") | ((with_reducible refine o_add2 ‹_› ?_); k_extra "omU") | ((with_reducible refine o_add2l ‹_› ?_); k_extra "omU") | ((with_reducible refine o_addl ?_); k_extra "omU") | ((with_reducible refine o_addm ‹_› (by decide) ?_); k_extra "omU") | fail))
  (k_with "omL" => (first | (k_extra "omC") | (with_reducible (first | exact o_ge ‹_› (by decide) | exact o_gel ‹_› (by decide) | exact o_gmul ‹_› (by decide) (by decide))) | ((with_reducible refine o_gaddc ?_); k_extra "omL") | ((with_reducible refine o_gsubc ?_); k_extra "omL") | ((with_reducible refine o_gsubv ‹_› ?_); k_extra "omL") | ((with_reducible refine o_gsubvl ‹_› ?_); k_extra "omL") | ((with_reducible refine o_gadd2 ‹_› ?_); k_extra "omL") | ((with_reducible refine o_gaddl ?_); k_extra "omL") | ((with_reducible refine o_gaddm ‹_› (by decide) ?_); k_extra "omL") | fail))
  (k_with "omR" => (first | (with_reducible (first | exact o_self (by decide))) | ((with_reducible refine o_ch ‹_› ?_); k_extra "omR") | ((with_reducible refine o_addch ?_); k_extra "omR") | fail))
  (k_with "omZ" => (first | (k_extra "omR") | (k_extra "omU") | (k_extra "omL") | fail))
  (k_with "omX" => (first | decide | (k_extra "omZ") | (with_reducible (first | exact Int.le_refl _ | exact Nat.le_refl _ | exact o_nle ‹_› (by decide) | exact o_nlt ‹_› (by decide) | exact o_nlel ‹_› (by decide))) | ((with_reducible refine o_ltc ?_); k_extra "omZ") | ((with_reducible refine o_gtc ?_); k_extra "omZ") | (with_reducible (first | exact o_iffn ‹_› ‹_› | exact o_neql ‹_› (by decide) | exact o_neqi ‹_› (by decide))) | ((with_reducible show _ < _); (first | (with_reducible exact Iff.mp ‹_› ‹_›) | k_extra "omA")) | ((repeat (rename _ ≠ _ => hz; clear hz)); (repeat (rename _ ≠ _ ∧ _ => hz; clear hz)); omega +splitDisjunctions) | fail))
  (k_with "omN" => (first | (with_reducible (first | exact o_n1 | exact o_n1' | exact o_ne ‹_› | exact o_ne' ‹_› | exact o_lt ‹_› | exact o_gt ‹_› | exact o_ne (by k_extra "omA") | exact o_ne' (by k_extra "omA") | exact o_lt (by k_extra "omA") | exact o_gt (by k_extra "omA") | exact o_lts1 (by k_extra "omA") | exact o_lts1' (by k_extra "omA") | exact o_lts2 (by k_extra "omA") | exact o_lts2' (by k_extra "omA") | exact o_gt2 ‹_› (by k_extra "omA") | exact o_lt2 ‹_› (by k_extra "omA"))) | fail))
  (k_with "om" => (first | with_reducible assumption | ((first | (with_reducible show _ ≤ _) | (with_reducible show _ < _)); k_extra "omX") | ((with_reducible show _ = _ → False); k_extra "omN") | fail))
  trivial
open PySem PySem.W PyProof.Rows PySem.Calls
section
variable {prog : Program} {w : World} {A : Around} {E : Value → Shared → Prop} {s : Shared} {Q : Value → Shared → Prop} {a b : Int} {t u : Tok}
theorem mod_var (hb : 0 < b) (h : ∀ r t', 0 ≤ r → r < b → Q (.int r t') { s with toks := s.toks + 1 }) : wpAny (model prog w) A (binaryOp .Mod (.int a t) (.int b u)) Q E s :=
  mod_int' (by omega) (h _ _ (by rw [Int.fmod_eq_emod_of_nonneg a (by omega)]; exact Int.emod_nonneg _ (by omega)) (by rw [Int.fmod_eq_emod_of_nonneg a (by omega)]; exact Int.emod_lt_of_pos _ hb))
theorem div_var (ha : 0 ≤ a) (hb : 0 < b) (hb' : b < 2 ^ 29) (h : ∀ r t', 0 ≤ r → Q (.int r t') { s with toks := s.toks + 1 }) : wpAny (model prog w) A (binaryOp .FloorDiv (.int a t) (.int b u)) Q E s :=
  PyProof.Rows.floordiv_int (by omega) (h _ _ (by rw [Int.fdiv_eq_ediv_of_nonneg a (by omega)]; exact Int.ediv_nonneg ha (by omega))) (Or.inl (PyProof.noPylong_small (by omega)))
theorem mul_var {X Y : Int} (ha : 0 ≤ a) (hX : a ≤ X) (hb : 0 ≤ b) (hY : b ≤ Y) (hY' : Y < 2 ^ 60) (h : ∀ r t', 0 ≤ r → r ≤ X * Y → Q (.int r t') { s with toks := s.toks + 1 }) : wpAny (model prog w) A (binaryOp .Mult (.int a t) (.int b u)) Q E s :=
  mul_int (h _ _ (Int.mul_nonneg ha hb) (Int.mul_le_mul hX hY hb (Int.le_trans ha hX))) (IntMulOk.of_right (intBits_le_64 (by omega) (by omega)))
theorem mul_lin (hb : -(2 ^ 60) < b) (hb' : b < 2 ^ 60) (h : Q (.int (a * b) s.toks) { s with toks := s.toks + 1 }) : wpAny (model prog w) A (binaryOp .Mult (.int a t) (.int b u)) Q E s :=
  mul_int h (IntMulOk.of_right (intBits_le_64 (by omega) (by omega)))
theorem mul_linL (hb : -(2 ^ 60) < a) (hb' : a < 2 ^ 60) (h : Q (.int (a * b) s.toks) { s with toks := s.toks + 1 }) : wpAny (model prog w) A (binaryOp .Mult (.int a t) (.int b u)) Q E s :=
  mul_int h (IntMulOk.of_left (intBits_le_64 (by omega) (by omega)))
theorem pow_var (ha : 0 ≤ a) (ha' : a < 2 ^ 64) (hb : 0 ≤ b) (hb' : b ≤ 1000) (h : ∀ r t', 0 ≤ r → Q (.int r t') { s with toks := s.toks + 1 }) : wpAny (model prog w) A (binaryOp .Pow (.int a t) (.int b u)) Q E s :=
  pow_int_small hb (by omega) (by omega) (h _ _ (Int.pow_nonneg ha))
theorem pow_is {v : Int} (ha : 0 ≤ a) (ha' : a < 2 ^ 64) (hb : 0 ≤ b) (hb' : b ≤ 1000) (e : a ^ b.toNat = v) (h : Q (.int v s.toks) { s with toks := s.toks + 1 }) : wpAny (model prog w) A (binaryOp .Pow (.int a t) (.int b u)) Q E s :=
  pow_int_small hb (by omega) (by omega) (by rw [e]; exact h)
end
end
section
theorem rg_Defs : True := by
  k_with_none
  (k_with "omA" => (first | (with_reducible (first | exact And.left ‹_› | exact And.left (And.right ‹_›) | exact And.left (And.right (And.right ‹_›)) | exact And.left (And.right (And.right (And.right ‹_›))) | exact And.left (And.right (And.right (And.right (And.right ‹_›)))) | exact And.left (And.right (And.right (And.right (And.right (And.right ‹_›))))) | exact And.left (And.right (And.right (And.right (And.right (And.right (And.right ‹_›)))))) | exact And.left (And.right (And.right (And.right (And.right (And.right (And.right (And.right ‹_›))))))) | exact And.left (And.right (And.right (And.right (And.right (And.right (And.right (And.right (And.right ‹_›)))))))) | exact And.left (And.right (And.right (And.right (And.right (And.right (And.right (And.right (And.right (And.right ‹_›))))))))) | exact And.left (And.right (And.right (And.right (And.right (And.right (And.right (And.right (And.right (And.right (And.right ‹_›)))))))))) | exact And.left (And.right (And.right (And.right (And.right (And.right (And.right (And.right (And.right (And.right (And.right (And.right ‹_›))))))))))) | exact And.left (And.right (And.right (And.right (And.right (And.right (And.right (And.right (And.right (And.right (And.right (And.right (And.right ‹_›)))))))))))) | exact And.left (And.right (And.right (And.right (And.right (And.right (And.right (And.right (And.right (And.right (And.right (And.right (And.right (And.right ‹_›))))))))))))) | exact And.left (And.right (And.right (And.right (And.right (And.right (And.right (And.right (And.right (And.right (And.right (And.right (And.right (And.right (And.right ‹_›)))))))))))))) | exact And.left (And.right (And.right (And.right (And.right (And.right (And.right (And.right (And.right (And.right (And.right (And.right (And.right (And.right (And.right (And.right ‹_›))))))))))))))) | exact And.left (And.right (And.right (And.right (And.right (And.right (And.right (And.right (And.right (And.right (And.right (And.right (And.right (And.right (And.right (And.right (And.right ‹_›)))))))))))))))) | exact And.right ‹_› | exact And.right (And.right ‹_›) | exact And.right (And.right (And.right ‹_›)) | exact And.right (And.right (And.right (And.right ‹_›))) | exact And.right (And.right (And.right (And.right (And.right ‹_›)))))) | fail))
  (k_with "omC" => (first | decide | fail))
  (k_with "omU" => (first | (k_extra "omC") | (with_reducible (first | exact o_le ‹_› (by decide) | exact o_lel ‹_› (by decide) | exact o_mul ‹_› (by decide) (by decide) | exact o_mull ‹_› (by decide) (by decide))) | ((with_reducible refine o_chl ‹_› ?_); k_extra "omU") | ((with_reducible refine o_addc ?_); k_extra "omU") | ((with_reducible refine o_subc ?_); k_extra "omU") | ((with_reducible refine o_subv ‹_› ?_); k_extra "omU") | ((with_reducible refine o_add2 ‹_› ?_); k_extra "omU") | ((with_reducible refine o_add2l ‹_› ?_); k_extra "omU") | ((with_reducible refine o_addl ?_); k_extra "omU") | ((with_reducible refine o_addm ‹_› (by decide) ?_); k_extra "omU") | fail))
  (k_with "omL" => (first | (k_extra "omC") | (with_reducible (first | exact o_ge ‹_› (by decide) | exact o_gel ‹_› (by decide) | exact o_gmul ‹_› (by decide) (by decide))) | ((with_reducible refine o_gaddc ?_); k_extra "omL") | ((with_reducible refine o_gsubc ?_); k_extra "omL") | ((with_reducible refine o_gsubv ‹_› ?_); k_extra "omL") | ((with_reducible refine o_gsubvl ‹_› ?_); k_extra "omL") | ((with_reducible refine o_gadd2 ‹_› ?_); k_extra "omL") | ((with_reducible refine o_gaddl ?_); k_extra "omL") | ((with_reducible refine o_gaddm ‹_› (by decide) ?_); k_extra "omL") | fail))
  (k_with "omR" => (first | (with_reducible (first | exact o_self (by decide))) | ((with_reducible refine o_ch ‹_› ?_); k_extra "omR") | ((with_reducible refine o_addch ?_); k_extra "omR") | fail))
  (k_with "omZ" => (first | (k_extra "omR") | (k_extra "omU") | (k_extra "omL") | fail))
  (k_with "omX" => (first | decide | (k_extra "omZ") | (with_reducible (first | exact Int.le_refl _ | exact Nat.le_refl _ | exact o_nle ‹_› (by decide) | exact o_nlt ‹_› (by decide) | exact o_nlel ‹_› (by decide))) | ((with_reducible refine o_ltc ?_); k_extra "omZ") | ((with_reducible refine o_gtc ?_); k_extra "omZ") | (with_reducible (first | exact o_iffn ‹_› ‹_› | exact o_neql ‹_› (by decide) | exact o_neqi ‹_› (by decide))) | ((with_reducible show _ < _); (first | (with_reducible exact Iff.mp ‹_› ‹_›) | k_extra "omA")) | ((repeat (rename _ ≠ _ => hz; clear hz)); (repeat (rename _ ≠ _ ∧ _ => hz; clear hz)); omega +splitDisjunctions) | fail))
  (k_with "omN" => (first | (with_reducible (first | exact o_n1 | exact o_n1' | exact o_ne ‹_› | exact o_ne' ‹_› | exact o_lt ‹_› | exact o_gt ‹_› | exact o_ne (by k_extra "omA") | exact o_ne' (by k_extra "omA") | exact o_lt (by k_extra "omA") | exact o_gt (by k_extra "omA") | exact o_lts1 (by k_extra "omA") | exact o_lts1' (by k_extra "omA") | exact o_lts2 (by k_extra "omA") | exact o_lts2' (by k_extra "omA") | exact o_gt2 ‹_› (by k_extra "omA") | exact o_lt2 ‹_› (by k_extra "omA"))) | fail))
  (k_with "om" => (first | with_reducible assumption | ((first | (with_reducible show _ ≤ _) | (with_reducible show _ < _)); k_extra "omX") | ((with_reducible show _ = _ → False); k_extra "omN") | fail))
  trivial
open PySem PySem.W PyProof.Rows PySem.Calls
abbrev penO (C : Addr) (spot left : Int) (k1 k2 : Tok) (n : Nat) : Obj := listOf #[.ref C, .int spot k1, .int left k2] n
abbrev d2 (w : World) (x y : String) (k1 k2 : Tok) (u v : Value) : Obj := dictOf [⟨PyData.keyHash w.params x, .str x k1, u⟩, ⟨PyData.keyHash w.params y, .str y k2, v⟩] 2
abbrev decD (w : World) (k1 k2 k3 k4 : Tok) (t p : Int) : Obj := d2 w "top" "places" k1 k3 (.int t k2) (.int p k4)
abbrev refD (w : World) (k1 k2 k3 k4 : Tok) (t p : Int) : Obj := d2 w "number" "generation" k1 k3 (.int t k2) (.int p k4)
abbrev shD (w : World) (k1 k2 : Tok) (T T2 : Addr) : Obj := d2 w "table" "trailer" k1 k2 (.ref T) (.ref T2)
theorem isList_ground {s : Shared} {led : Led} {g : Heap} {a : Addr} {its : Array Value} (G : Ground s led g) (h : s.heap.IsList a its) (n : a ∉ led.map (·.1)) : g.IsList a its := by
  obtain ⟨o, e, r⟩ := h
  exact ⟨o, G.keep _ _ e n, r⟩
end
section
theorem rg_Draw : True := by
  k_with_none
  (k_with "omA" => (first | (with_reducible (first | exact And.left ‹_› | exact And.left (And.right ‹_›) | exact And.left (And.right (And.right ‹_›)) | exact And.left (And.right (And.right (And.right ‹_›))) | exact And.left (And.right (And.right (And.right (And.right ‹_›)))) | exact And.left (And.right (And.right (And.right (And.right (And.right ‹_›))))) | exact And.left (And.right (And.right (And.right (And.right (And.right (And.right ‹_›)))))) | exact And.left (And.right (And.right (And.right (And.right (And.right (And.right (And.right ‹_›))))))) | exact And.left (And.right (And.right (And.right (And.right (And.right (And.right (And.right (And.right ‹_›)))))))) | exact And.left (And.right (And.right (And.right (And.right (And.right (And.right (And.right (And.right (And.right ‹_›))))))))) | exact And.left (And.right (And.right (And.right (And.right (And.right (And.right (And.right (And.right (And.right (And.right ‹_›)))))))))) | exact And.left (And.right (And.right (And.right (And.right (And.right (And.right (And.right (And.right (And.right (And.right (And.right ‹_›))))))))))) | exact And.left (And.right (And.right (And.right (And.right (And.right (And.right (And.right (And.right (And.right (And.right (And.right (And.right ‹_›)))))))))))) | exact And.left (And.right (And.right (And.right (And.right (And.right (And.right (And.right (And.right (And.right (And.right (And.right (And.right (And.right ‹_›))))))))))))) | exact And.left (And.right (And.right (And.right (And.right (And.right (And.right (And.right (And.right (And.right (And.right (And.right (And.right (And.right (And.right ‹_›)))))))))))))) | exact And.left (And.right (And.right (And.right (And.right (And.right (And.right (And.right (And.right (And.right (And.right (And.right (And.right (And.right (And.right (And.right ‹_›))))))))))))))) | exact And.left (And.right (And.right (And.right (And.right (And.right (And.right (And.right (And.right (And.right (And.right (And.right (And.right (And.right (And.right (And.right (And.right ‹_›)))))))))))))))) | exact And.right ‹_› | exact And.right (And.right ‹_›) | exact And.right (And.right (And.right ‹_›)) | exact And.right (And.right (And.right (And.right ‹_›))) | exact And.right (And.right (And.right (And.right (And.right ‹_›)))))) | fail))
  (k_with "omC" => (first | decide | fail))
  (k_with "omU" => (first | (k_extra "omC") | (with_reducible (first | exact o_le ‹_› (by decide) | exact o_lel ‹_› (by decide) | exact o_mul ‹_› (by decide) (by decide) | exact o_mull ‹_› (by decide) (by decide))) | ((with_reducible refine o_chl ‹_› ?_); k_extra "omU") | ((with_reducible refine o_addc ?_); k_extra "omU") | ((with_reducible refine o_subc ?_); k_extra "omU") | ((with_reducible refine o_subv ‹_› ?_); k_extra "omU") | ((with_reducible refine o_add2 ‹_› ?_); k_extra "omU") | ((with_reducible refine o_add2l ‹_› ?_); k_extra "omU") | ((with_reducible refine o_addl ?_); k_extra "omU") | ((with_reducible refine o_addm ‹_› (by decide) ?_); k_extra "omU") | fail))
  (k_with "omL" => (first | (k_extra "omC") | (with_reducible (first | exact o_ge ‹_› (by decide) | exact o_gel ‹_› (by decide) | exact o_gmul ‹_› (by decide) (by decide))) | ((with_reducible refine o_gaddc ?_); k_extra "omL") | ((with_reducible refine o_gsubc ?_); k_extra "omL") | ((with_reducible refine o_gsubv ‹_› ?_); k_extra "omL") | ((with_reducible refine o_gsubvl ‹_› ?_); k_extra "omL") | ((with_reducible refine o_gadd2 ‹_› ?_); k_extra "omL") | ((with_reducible refine o_gaddl ?_); k_extra "omL") | ((with_reducible refine o_gaddm ‹_› (by decide) ?_); k_extra "omL") | fail))
  (k_with "omR" => (first | (with_reducible (first | exact o_self (by decide))) | ((with_reducible refine o_ch ‹_› ?_); k_extra "omR") | ((with_reducible refine o_addch ?_); k_extra "omR") | fail))
  (k_with "omZ" => (first | (k_extra "omR") | (k_extra "omU") | (k_extra "omL") | fail))
  (k_with "omX" => (first | decide | (k_extra "omZ") | (with_reducible (first | exact Int.le_refl _ | exact Nat.le_refl _ | exact o_nle ‹_› (by decide) | exact o_nlt ‹_› (by decide) | exact o_nlel ‹_› (by decide))) | ((with_reducible refine o_ltc ?_); k_extra "omZ") | ((with_reducible refine o_gtc ?_); k_extra "omZ") | (with_reducible (first | exact o_iffn ‹_› ‹_› | exact o_neql ‹_› (by decide) | exact o_neqi ‹_› (by decide))) | ((with_reducible show _ < _); (first | (with_reducible exact Iff.mp ‹_› ‹_›) | k_extra "omA")) | ((repeat (rename _ ≠ _ => hz; clear hz)); (repeat (rename _ ≠ _ ∧ _ => hz; clear hz)); omega +splitDisjunctions) | fail))
  (k_with "omN" => (first | (with_reducible (first | exact o_n1 | exact o_n1' | exact o_ne ‹_› | exact o_ne' ‹_› | exact o_lt ‹_› | exact o_gt ‹_› | exact o_ne (by k_extra "omA") | exact o_ne' (by k_extra "omA") | exact o_lt (by k_extra "omA") | exact o_gt (by k_extra "omA") | exact o_lts1 (by k_extra "omA") | exact o_lts1' (by k_extra "omA") | exact o_lts2 (by k_extra "omA") | exact o_lts2' (by k_extra "omA") | exact o_gt2 ‹_› (by k_extra "omA") | exact o_lt2 ‹_› (by k_extra "omA"))) | fail))
  (k_with "om" => (first | with_reducible assumption | ((first | (with_reducible show _ ≤ _) | (with_reducible show _ < _)); k_extra "omX") | ((with_reducible show _ = _ → False); k_extra "omN") | fail))
  trivial
open PySem PySem.W PyProof.Rows PySem.Calls
theorem reg_draw : PySem.Challenge.rw_nn0125_01 = PySem.Challenge.rw_nn0125_01 ∧ KX = KX := by k_fill; exact ⟨rfl, rfl⟩
theorem ne_pos {ns : List Int} (h : decide (ns = []) = false) : (0 : Int) < (ns.length : Int) := by
  have := List.length_pos_iff.mpr (of_decide_eq_false h)
  omega
section
local macro_rules | `(tactic| k_fmods) => `(tactic| fail "off")
local macro_rules | `(tactic| wrow_close) => `(tactic| fail "off")
theorem rg_Draw8 : True := by
  (k_with "binaryOp Mod int int" => ((k_here; (with_reducible refine mod_var ?hbz1 ?_); (case hbz1 => first | decide | omega | exact ne_pos (by assumption)); intro _ _ _ _)))
  (k_with "binaryOp FloorDiv int int" => ((k_here; (with_reducible refine div_var ?haz2 ?hbz2 ?hb'z2 ?_); (case haz2 => first | decide | omega); (case hbz2 => first | decide | omega); (case hb'z2 => first | decide | omega); intro _ _ _)))
  (k_with "binaryOp Mult int int" => ((k_here; (with_reducible refine mul_var (X := 2147483629) (Y := 1000000) ?haz3 ?hXz3 ?hbz3 ?hYz3 ?hY'z3 ?_); (case haz3 => first | decide | omega); (case hXz3 => first | decide | omega); (case hbz3 => first | decide | omega); (case hYz3 => first | decide | omega); (case hY'z3 => decide); intro _ _ _ _)))
  (k_with "binaryOp Mult int int" => ((k_here; first | ((with_reducible refine mul_linL ?haz4 ?hbz4 ?_); (case haz4 => decide); (case hbz4 => decide)) | ((with_reducible refine mul_lin ?haz4 ?hbz4 ?_); (case haz4 => decide); (case hbz4 => decide)))))
  (k_with "binaryOp Pow int int" => ((k_here; first
    | ((with_reducible refine pow_is (v := 1000000000000000000) ?haz5 ?hXz5 ?hbz5 ?hYz5 ?ez5 ?_); (case haz5 => decide); (case hXz5 => decide); (case hbz5 => decide); (case hYz5 => decide); (case ez5 => decide))
    | ((with_reducible refine pow_var ?haz5 ?hXz5 ?hbz5 ?hYz5 ?_); (case haz5 => omega); (case hXz5 => omega); (case hbz5 => decide); (case hYz5 => decide); intro _ _ _))))
  trivial
inductive DrawPost (P C : Addr) (spot many : Int) (nw : Led) (r : Value) : Prop
  | mk : ∀ d t spot' left' n' k1' k2', nw = [(P, penO C spot' left' k1' k2' n')] → r = .int d t → 0 ≤ d → d < many → 0 ≤ spot' → spot' ≤ spot + 1 → 0 ≤ left' → DrawPost P C spot many nw r
theorem draw_end {base : Heap} {outer : List Env} {s : Shared} {g h' : Heap} {L' : Addr} {m' : Str → Option Value} {all : Led} {P C : Addr} {o : Obj} {spot many d spot' left' : Int} {t k1' k2' : Tok} {n' tk : Nat}
    (G : Ground s [(P, o)] g) (hl : LedOk base outer s.heap [(P, o)]) (F : Fr g L' h' m') (N : News g L' h' all) (hm : (P, penO C spot' left' k1' k2' n') ∈ all) (h1 : 0 ≤ d) (h2 : d < many) (h3 : 0 ≤ spot') (h4 : spot' ≤ spot + 1) (h5 : 0 ≤ left') :
    Ok s [P] (DrawPost P C spot many) (.int d t) { s with heap := h', toks := tk } := by
  refine ⟨h', tk, [(P, penO C spot' left' k1' k2' n')], rfl, keep_of G hl F N fun q hq hn => ?_, fun q hq => ?_, d, t, spot', left', n', k1', k2', rfl, rfl, h1, h2, h3, h4, h5⟩
  · rw [List.mem_singleton.mp hq] at hn
    exact absurd (List.mem_singleton.mpr rfl) hn
  · rw [List.mem_singleton.mp hq]
    exact ⟨(N _ hm).1, .inr (List.mem_singleton.mpr rfl)⟩
section
variable {w : World} {A : Around} {E : Value → Shared → Prop} {Q : Flow → Shared → Prop} {s : Shared} {env : Env} {h₀ : Heap} {L : Addr} {m₀ : Str → Option Value} {news : Led}
inductive CellMid (h₀ : Heap) (L : Addr) (s : Shared) (m₀ : Str → Option Value) (news : Led) (f : Flow) (s' : Shared) : Prop
  | mk : f = .next → ∀ c k h' tk, s' = { s with heap := h', toks := tk } → Fr h₀ L h' (fun y => if y = ("cell" : Str) then some (.int c k) else m₀ y) → News h₀ L h' news → CellMid h₀ L s m₀ news f s'
theorem cell_new {h' : Heap} {tk : Nat} {all : Led} {c : Int} {k : Tok} (F : Fr h₀ L h' (fun y => if y = ("cell" : Str) then some (.int c k) else m₀ y)) (N : News h₀ L h' all) (sub : ∀ x ∈ news, x ∈ all) : CellMid h₀ L s m₀ news .next { s with heap := h', toks := tk } :=
  ⟨rfl, c, k, h', tk, rfl, F, fun x hx => N x (sub x hx)⟩
theorem cell_old {h' : Heap} {tk : Nat} {all : Led} {c : Int} {k : Tok} (F : Fr h₀ L h' m₀) (N : News h₀ L h' all) (sub : ∀ x ∈ news, x ∈ all) (e : m₀ "cell" = some (.int c k)) : CellMid h₀ L s m₀ news .next { s with heap := h', toks := tk } := by
  refine cell_new (c := c) (k := k) ?_ N sub
  have e : m₀ = fun y => if y = ("cell" : Str) then some (.int c k) else m₀ y := funext fun y => by
    by_cases h : y = ("cell" : Str)
    · subst h; exact e.trans (if_pos rfl).symm
    · exact (if_neg h).symm
  rw [← e]
  exact F
theorem join_cell {prog : Program} {stmt : Stmt} {rest : List Stmt} (uF : Fr h₀ L s.heap m₀) (uN : News h₀ L s.heap news)
    (h1 : wpAny (model prog w) A (exec stmt env) (CellMid h₀ L s m₀ news) E s)
    (h2 : ∀ c k h' tk, Fr h₀ L h' (fun y => if y = ("cell" : Str) then some (.int c k) else m₀ y) → News h₀ L h' news → wpAny (model prog w) A (execs rest env) Q E { s with heap := h', toks := tk }) :
    wpAny (model prog w) A (execs (stmt :: rest) env) Q E s := by
  refine wpAny_execs_cons (wpAny_mono h1 (fun f s' z => ?_) fun _ _ z => z)
  obtain ⟨rfl, c, k, h', tk, rfl, F', N'⟩ := z
  exact h2 c k h' tk F' N'
def GoMid (h₀ : Heap) (L : Addr) (s : Shared) (m₀ : Str → Option Value) (news : Led) (R : Value → Shared → Prop) (f : Flow) (s' : Shared) : Prop :=
  (f = .next ∧ ∃ h' tk, s' = { s with heap := h', toks := tk } ∧ Fr h₀ L h' m₀ ∧ News h₀ L h' news) ∨ (∃ v, f = .ret v ∧ R v s')
theorem go_end {h' : Heap} {tk : Nat} {all : Led} {R : Value → Shared → Prop} (F : Fr h₀ L h' m₀) (N : News h₀ L h' all) (sub : ∀ x ∈ news, x ∈ all) : GoMid h₀ L s m₀ news R .next { s with heap := h', toks := tk } :=
  .inl ⟨rfl, h', tk, rfl, F, fun x hx => N x (sub x hx)⟩
theorem join_go {prog : Program} {stmt : Stmt} {rest : List Stmt} {R : Value → Shared → Prop} (uF : Fr h₀ L s.heap m₀) (uN : News h₀ L s.heap news)
    (h1 : wpAny (model prog w) A (exec stmt env) (GoMid h₀ L s m₀ news R) E s) (hR : ∀ v s', R v s' → Q (.ret v) s')
    (h2 : ∀ h' tk, Fr h₀ L h' m₀ → News h₀ L h' news → wpAny (model prog w) A (execs rest env) Q E { s with heap := h', toks := tk }) :
    wpAny (model prog w) A (execs (stmt :: rest) env) Q E s := by
  refine wpAny_execs_cons (wpAny_mono h1 (fun f s' z => ?_) fun _ _ z => z)
  rcases z with ⟨rfl, h', tk, rfl, F', N'⟩ | ⟨v, rfl, z⟩
  · exact h2 h' tk F' N'
  · exact hR v s' z
end
set_option maxRecDepth 100000 in
set_option maxHeartbeats 8000000 in
theorem draw_ok {w : World} {p : Program} {loose : List Str} {mean : ExcName → Option Value} {mg mb : Str → Option Value} {base : Heap} {outer : List Env} {s : Shared} {dp un : Nat} {gd : Option (List Code)}
    {P C : Addr} {spot left many : Int} {k1 k2 k3 : Tok} {n : Nat} {vs : List Value} {ns : List Int} (hdp : dp ≤ 600) (hun : un ≤ 5000) (Cc : Cx w p loose mean mg mb base outer s.heap)
    (hled : LedOk base outer s.heap [(P, penO C spot left k1 k2 n)]) (hC : s.heap.IsList C vs.toArray) (hCP : C ≠ P) (hI : IntsAre vs ns) (hlen : ns.length ≤ 63) (hs0 : 0 ≤ spot) (hs1 : spot ≤ 100000) (hl0 : 0 ≤ left) (hm0 : 1 ≤ many) (hm1 : many ≤ 12) :
    wpAny (model PW w) (kA dp un gd outer) (call (.ref 457) [.ref P, .int many k3]) (Ok s [P] (DrawPost P C spot many)) Never s := by
  refine wpAny_le (dp' := 600) (un' := 5000) ?_ hdp hun
  refine wpAny_call ?_
  k_dflt (refine' enter (led := [(P, penO C spot left k1 k2 n)]) Cc hled ?k6 ?k7 ?k8 ?k9 ?kB ?_ ?c2 ?c3 ?c4 ?c5; (case k6 => k_is); (case k7 => k_is); (case k8 => decide); (case k9 => exact BindsTo.of_eq rfl); (case c5 => decide); (case kB => exact locs rfl); (case c2 => exact rfl); (case c3 => exact rfl); (case c4 => exact rfl))
  intro g L' h' G hL' F' N' B' X' T'
  have hC' : g.IsList C vs.toArray := isList_ground G hC (by simpa using hCP)
  clear hC
  try dsimp only
  try k_fold
  repeat' ((fail_if_success (with_reducible show wpAny _ _ (execs (Stmt.If _ _ _ _ :: Stmt.If _ _ _ _ :: _) _) _ _ _)); first | (k_end; exact draw_end G hled (by assumption) (by assumption) (by k_mem) (by omega) (by omega) (by omega) (by omega) (by omega)) | (k_unfold; (try dsimp only)) | walk1 | (dsimp only; walk1) | fail "no step")
  refine' join_cell (by assumption) (by assumption) ?hA ?hB
  case hA =>
    repeat' (first | (k_end; first | exact cell_new (by assumption) (by assumption) (fun q hq => by repeat (first | exact hq | refine List.mem_cons_of_mem _ ?_)) | exact cell_old (by assumption) (by assumption) (fun q hq => by repeat (first | exact hq | refine List.mem_cons_of_mem _ ?_)) rfl) | (k_unfold; (try dsimp only)) | walk1 | (dsimp only; walk1) | fail "no step")
    all_goals w_report
  case hB =>
    rename Fr _ _ _ _ => F0
    rename News _ _ _ _ => N0
    clear F0 N0
    intro cell kcell h1 tk1 F1 N1
    (try dsimp only); (try k_fold)
    refine' join_go (R := Ok s [P] (DrawPost P C spot many)) F1 N1 ?hC (fun _ _ z => z) ?hD
    case hC =>
      repeat' (first | (k_end; first | exact go_end (by assumption) (by assumption) (fun q hq => by repeat (first | exact hq | refine List.mem_cons_of_mem _ ?_)) | exact .inr ⟨_, rfl, draw_end G hled (by assumption) (by assumption) (by k_mem) (by omega) (by omega) (by omega) (by omega) (by omega)⟩) | (k_unfold; (try dsimp only)) | walk1 | (dsimp only; walk1) | fail "no step")
      all_goals w_report
    case hD =>
      clear F1 N1
      intro h2 tk2 F2 N2
      (try dsimp only); (try k_fold)
      repeat' (first | (k_end; exact draw_end G hled (by assumption) (by assumption) (by k_mem) (by omega) (by omega) (by omega) (by omega) (by omega)) | (k_unfold; (try dsimp only)) | walk1 | (dsimp only; walk1) | fail "no step")
      all_goals w_report
end
end
section
theorem rg_Pure : True := by
  k_with_none
  (k_with "omA" => (first | (with_reducible (first | exact And.left ‹_› | exact And.left (And.right ‹_›) | exact And.left (And.right (And.right ‹_›)) | exact And.left (And.right (And.right (And.right ‹_›))) | exact And.left (And.right (And.right (And.right (And.right ‹_›)))) | exact And.left (And.right (And.right (And.right (And.right (And.right ‹_›))))) | exact And.left (And.right (And.right (And.right (And.right (And.right (And.right ‹_›)))))) | exact And.left (And.right (And.right (And.right (And.right (And.right (And.right (And.right ‹_›))))))) | exact And.left (And.right (And.right (And.right (And.right (And.right (And.right (And.right (And.right ‹_›)))))))) | exact And.left (And.right (And.right (And.right (And.right (And.right (And.right (And.right (And.right (And.right ‹_›))))))))) | exact And.left (And.right (And.right (And.right (And.right (And.right (And.right (And.right (And.right (And.right (And.right ‹_›)))))))))) | exact And.left (And.right (And.right (And.right (And.right (And.right (And.right (And.right (And.right (And.right (And.right (And.right ‹_›))))))))))) | exact And.left (And.right (And.right (And.right (And.right (And.right (And.right (And.right (And.right (And.right (And.right (And.right (And.right ‹_›)))))))))))) | exact And.left (And.right (And.right (And.right (And.right (And.right (And.right (And.right (And.right (And.right (And.right (And.right (And.right (And.right ‹_›))))))))))))) | exact And.left (And.right (And.right (And.right (And.right (And.right (And.right (And.right (And.right (And.right (And.right (And.right (And.right (And.right (And.right ‹_›)))))))))))))) | exact And.left (And.right (And.right (And.right (And.right (And.right (And.right (And.right (And.right (And.right (And.right (And.right (And.right (And.right (And.right (And.right ‹_›))))))))))))))) | exact And.left (And.right (And.right (And.right (And.right (And.right (And.right (And.right (And.right (And.right (And.right (And.right (And.right (And.right (And.right (And.right (And.right ‹_›)))))))))))))))) | exact And.right ‹_› | exact And.right (And.right ‹_›) | exact And.right (And.right (And.right ‹_›)) | exact And.right (And.right (And.right (And.right ‹_›))) | exact And.right (And.right (And.right (And.right (And.right ‹_›)))))) | fail))
  (k_with "omC" => (first | decide | fail))
  (k_with "omU" => (first | (k_extra "omC") | (with_reducible (first | exact o_le ‹_› (by decide) | exact o_lel ‹_› (by decide) | exact o_mul ‹_› (by decide) (by decide) | exact o_mull ‹_› (by decide) (by decide))) | ((with_reducible refine o_chl ‹_› ?_); k_extra "omU") | ((with_reducible refine o_addc ?_); k_extra "omU") | ((with_reducible refine o_subc ?_); k_extra "omU") | ((with_reducible refine o_subv ‹_› ?_); k_extra "omU") | ((with_reducible refine o_add2 ‹_› ?_); k_extra "omU") | ((with_reducible refine o_add2l ‹_› ?_); k_extra "omU") | ((with_reducible refine o_addl ?_); k_extra "omU") | ((with_reducible refine o_addm ‹_› (by decide) ?_); k_extra "omU") | fail))
  (k_with "omL" => (first | (k_extra "omC") | (with_reducible (first | exact o_ge ‹_› (by decide) | exact o_gel ‹_› (by decide) | exact o_gmul ‹_› (by decide) (by decide))) | ((with_reducible refine o_gaddc ?_); k_extra "omL") | ((with_reducible refine o_gsubc ?_); k_extra "omL") | ((with_reducible refine o_gsubv ‹_› ?_); k_extra "omL") | ((with_reducible refine o_gsubvl ‹_› ?_); k_extra "omL") | ((with_reducible refine o_gadd2 ‹_› ?_); k_extra "omL") | ((with_reducible refine o_gaddl ?_); k_extra "omL") | ((with_reducible refine o_gaddm ‹_› (by decide) ?_); k_extra "omL") | fail))
  (k_with "omR" => (first | (with_reducible (first | exact o_self (by decide))) | ((with_reducible refine o_ch ‹_› ?_); k_extra "omR") | ((with_reducible refine o_addch ?_); k_extra "omR") | fail))
  (k_with "omZ" => (first | (k_extra "omR") | (k_extra "omU") | (k_extra "omL") | fail))
  (k_with "omX" => (first | decide | (k_extra "omZ") | (with_reducible (first | exact Int.le_refl _ | exact Nat.le_refl _ | exact o_nle ‹_› (by decide) | exact o_nlt ‹_› (by decide) | exact o_nlel ‹_› (by decide))) | ((with_reducible refine o_ltc ?_); k_extra "omZ") | ((with_reducible refine o_gtc ?_); k_extra "omZ") | (with_reducible (first | exact o_iffn ‹_› ‹_› | exact o_neql ‹_› (by decide) | exact o_neqi ‹_› (by decide))) | ((with_reducible show _ < _); (first | (with_reducible exact Iff.mp ‹_› ‹_›) | k_extra "omA")) | ((repeat (rename _ ≠ _ => hz; clear hz)); (repeat (rename _ ≠ _ ∧ _ => hz; clear hz)); omega +splitDisjunctions) | fail))
  (k_with "omN" => (first | (with_reducible (first | exact o_n1 | exact o_n1' | exact o_ne ‹_› | exact o_ne' ‹_› | exact o_lt ‹_› | exact o_gt ‹_› | exact o_ne (by k_extra "omA") | exact o_ne' (by k_extra "omA") | exact o_lt (by k_extra "omA") | exact o_gt (by k_extra "omA") | exact o_lts1 (by k_extra "omA") | exact o_lts1' (by k_extra "omA") | exact o_lts2 (by k_extra "omA") | exact o_lts2' (by k_extra "omA") | exact o_gt2 ‹_› (by k_extra "omA") | exact o_lt2 ‹_› (by k_extra "omA"))) | fail))
  (k_with "om" => (first | with_reducible assumption | ((first | (with_reducible show _ ≤ _) | (with_reducible show _ < _)); k_extra "omX") | ((with_reducible show _ = _ → False); k_extra "omN") | fail))
  trivial
open PySem PySem.W PyProof.Rows PySem.Calls
section
variable {w : World} {p : Program} {loose : List Str} {mean : ExcName → Option Value} {mg mb : Str → Option Value} {base : Heap} {outer : List Env} {s : Shared}
theorem enterP {dp un : Nat} {gd : Option (List Code)} {R : Result → Shared → Prop} {name qual : Str} {params : Arguments} {body : List Stmt} {scope : Scope} {dV kV doc pm cdv ct oc : Value} {an od : Option Addr} {osl : Array (Option Value)} {f : Addr} {args : Args} {binds : List (Str × Value)}
    (C : Cx w p loose mean mg mb base outer s.heap)
    (ho : (KX w.params).lookup f = some ⟨oc, od, .func (fnOf name qual params body scope dV kV doc pm an cdv ct), osl⟩) (hcd : codeIn (KX w.params) cdv qual = true) (hroom : dp < recursionLimit)
    (hbind : BindsTo s (fnOf name qual params body scope dV kV doc pm an cdv ct) args binds) (hloc : ∀ y ∈ binds, scope.names.lookup y.1 = some .local)
    (h : ∀ L' h₁, Fr s.heap L' h₁ (fun y => binds.reverse.lookup y) → News s.heap L' h₁ [] → Below (kA dp un gd outer) base outer s.heap → (KX w.params).In s.heap → Top p loose mean mg mb s.heap →
      wpAny (model PW w) ((kA dp un gd outer).deeper (envOf qual scope L' f cdv)) (execs body (envOf qual scope L' f cdv))
        (fun fl s' => R (.ok (.ret (match fl with | .ret v => v | _ => .none))) s')
        (fun e s' => wpAny (model PW w) ((kA dp un gd outer).deeper (envOf qual scope L' f cdv)) (leaving (envOf qual scope L' f cdv) e) (fun _ s'' => R (.error e) s'') (fun e' s'' => R (.error e') s'') s')
        { s with heap := h₁, toks := s.toks + binds.length })
    (hco : scope.isCoroutine = false) (hgen : scope.isGenerator = false) (hk : scope.kind = .function)
    (hcell : ∀ x ∈ scope.names, x.2 ≠ .cell) : codeAny (model PW w) (kA dp un gd outer) (.call (.ref f) args) R s := by
  have hlim := C.W.T.nolimit
  refine codeAny_call_def (fd := fnOf name qual params body scope dV kV doc pm an cdv ct) (body := body) (binds := binds) hroom ((C.W.X.keeps C.stays) _ _ ho) rfl (hlim.keeps C.stays) (codeRec_of (C.W.X.keeps C.stays) hcd) rfl hbind hcell hloc (fun h₁ hns hk₁ => ?_) hco hgen hk
  exact h _ h₁ ⟨hns, hk₁, Nat.le_refl _⟩ News.nil ⟨rfl, C.stays, C.frames⟩ (C.W.X.keeps C.stays) (C.W.T.keeps C.stays)
theorem pure_end {h' : Heap} {L : Addr} {m : Str → Option Value} {all nw : Led} {Post : Led → Value → Prop} {r : Value} {tk : Nat} (F : Fr s.heap L h' m) (N : News s.heap L h' all) (sub : ∀ q ∈ nw, q ∈ all) (hp : Post nw r) :
    Ok s [] Post r { s with heap := h', toks := tk } :=
  ⟨h', tk, nw, rfl, fun b o e _ => F.keep b o e, fun q hq => ⟨(N q (sub q hq)).1, .inl (N q (sub q hq)).2.2⟩, hp⟩
end
section
variable {w : World} {A : Around} {E : Value → Shared → Prop} {s : Shared} {h₀ : Heap} {L : Addr} {m : Str → Option Value}
theorem inst_base {h : Heap} {x C dx : Addr} {od : Obj} {sl : Array (Option Value)} (F : Fr h₀ L h m) (h1 : h₀.get? x = some (⟨.ref C, some dx, .plain, sl⟩ : Obj)) (h2 : h₀.get? dx = some od) : InstAt h x ⟨.ref C, some dx, .plain, sl⟩ C (some od) :=
  ⟨F.keep _ _ h1, rfl, rfl, F.keep _ _ h2⟩
theorem tup_base {h : Heap} {t : Addr} {items : Array Value} {n : Nat} (F : Fr h₀ L h m) (h1 : h₀.get? t = some ({ cls := .type "tuple", data := .seq items n } : Obj)) : IsTup h t items := ⟨_, F.keep _ _ h1, rfl, _, rfl⟩
section
variable {T : Addr} {oT : Obj} {kvs : List (Int × Value)} {num : Int} {tk : Tok} {dflt : Value} (F : Fr h₀ L s.heap m) (hT : h₀.get? T = some oT) (hd : oT.IsDictOf (intKind PW w) kvs)
include F hT hd
theorem tab_dict : s.heap.DictOf (intKind PW w) T kvs := Heap.dictOf_iff.mpr ⟨oT, F.keep _ _ hT, hd⟩
theorem tab_method {pl : Sem Bool} {Q : Value × List Value → Shared → Prop} (h : Q (.builtin "dict.get", [.ref T]) s) : wpAny (model PW w) A (getMethod (.ref T) "get" pl) Q E s :=
  have hD := tab_dict F hT hd
  getMethod_builtin hD.typeIs PySem.F.plainAttrs_dict PySem.F.slot_dict_get PySem.F.type_dict_get hD.mapOf.noDict h
theorem tab_get (lo : (T == sysModules) = false) {x : Option Value} {Q : Value → Shared → Prop} (hl : valueAt kvs num = x) (h : Q (x.getD dflt) { s with toks := s.toks + 1 }) :
    wpAny (model PW w) A (call (.builtin "dict.get") [.ref T, .int num tk, dflt]) Q E s :=
  have hD := tab_dict F hT hd
  call_meetsIn PySem.F.slot_dict_get hD.typeIs PySem.F.entry_dict_get (PySem.F.args_dict_get_3 _ _ _) (meets_dict_get_default (intKind PW w) T (intKind_is _ _ _ _) lo dflt) ⟨_, hD.mapOf, by rw [hl]; exact h⟩
end
end
section
variable {w : World} {p : Program} {loose : List Str} {mean : ExcName → Option Value} {mg mb : Str → Option Value} {base : Heap} {outer : List Env} {s : Shared}
theorem led_end {led : Led} {g h' : Heap} {L' : Addr} {m' : Str → Option Value} {all nw : Led} {Post : Led → Value → Prop} {r : Value} {tk : Nat}
    (G : Ground s led g) (F : Fr g L' h' m') (N : News g L' h' all) (sub : ∀ q ∈ nw, q ∈ all) (hp : Post nw r) : Ok s (led.map (·.1)) Post r { s with heap := h', toks := tk } := by
  refine ⟨h', tk, nw, rfl, fun b o e n => F.keep b o (G.keep b o e n), fun q hq => ⟨(N q (sub q hq)).1, ?_⟩, hp⟩
  by_cases hm : q.1 ∈ led.map (·.1)
  · exact .inr hm
  · refine .inl ?_
    cases e : s.heap.get? q.1 with
    | none => rfl
    | some o => have := G.keep _ _ e hm; rw [(N q (sub q hq)).2.2] at this; cases this
end
section
variable {w : World} {p : Program} {loose : List Str} {mean : ExcName → Option Value} {mg mb : Str → Option Value} {base : Heap} {outer : List Env} {s : Shared}
theorem still_end {led : Led} {g h' : Heap} {L' : Addr} {m' : Str → Option Value} {all nw : Led} {Post : Led → Value → Prop} {r : Value} {tk : Nat}
    (G : Ground s led g) (hl : LedOk base outer s.heap led) (F : Fr g L' h' m') (N : News g L' h' all) (still : ∀ q ∈ led, q ∈ all) (sub : ∀ q ∈ nw, q ∈ all ∧ q.1 ∉ led.map (·.1)) (hp : Post nw r) : Ok s [] Post r { s with heap := h', toks := tk } :=
  ⟨h', tk, nw, rfl, keep_of G hl F N fun q hq _ => still q hq, fun q hq => ⟨(N q (sub q hq).1).1, .inl (new_of G N (sub q hq).1 (sub q hq).2).2⟩, hp⟩
end
section
variable {M : Model} {A : Around} {t : Sem Value} {s : Shared} {h₀ : Heap} {L : Addr} {m : Str → Option Value} {news : Led} {Q : Value → Shared → Prop} {E : Value → Shared → Prop}
theorem use0 {Post : Led → Value → Prop} (c : wpAny M A t (Ok s [] Post) Never s) (F : Fr h₀ L s.heap m) (N : News h₀ L s.heap news)
    (k : ∀ r h' tk nw, Post nw r → Fr h₀ L h' m → News h₀ L h' (nw ++ news) → (∀ q ∈ nw, ∀ x ∈ news, x.1 ≠ q.1) → Q r { s with heap := h', toks := tk }) : wpAny M A t Q E s :=
  use_ok c F N (rest := news) (fun q hq => ⟨hq, by simp⟩) (fun a ha => nomatch ha) fun r h' tk nw F' N' hd hp => k r h' tk nw hp F' N' hd
theorem use1 {P : Addr} {o : Obj} {g : Obj → Led} {Post : Obj → Led → Value → Prop} (c : wpAny M A t (Ok s [P] (fun nw r => ∃ o' nw', nw = (P, o') :: nw' ∧ Post o' nw' r)) Never s) (F : Fr h₀ L s.heap m) (N : News h₀ L s.heap news) (U : UpdF P o news g)
    (k : ∀ r h' tk o' nw, Post o' nw r → Fr h₀ L h' m → News h₀ L h' (nw ++ g o') → (∀ q ∈ nw, ∀ x ∈ news, x.1 ≠ q.1 ∨ x.1 = P) → Q r { s with heap := h', toks := tk }) : wpAny M A t Q E s := by
  obtain ⟨pre, post, rfl, hg, h1, h2⟩ := U.split
  have hP := N (P, o) (List.mem_append_right _ (.head _))
  refine use_ok c F N (rest := pre ++ post) (fun q hq => ?_) (fun a ha => ?_) fun r h' tk nw F' N' hd hp => ?_
  · rcases List.mem_append.mp hq with hq | hq
    · exact ⟨List.mem_append_left _ hq, by simpa using h1 q hq⟩
    · exact ⟨List.mem_append_right _ (.tail _ hq), by simpa using h2 q hq⟩
  · rw [List.mem_singleton.mp ha]
    exact ⟨hP.2.2, hP.2.1⟩
  · obtain ⟨o', nw', rfl, hp⟩ := hp
    refine k r h' tk o' nw' hp F' (fun q hq => ?_) fun q hq x hx => ?_
    · rw [hg] at hq
      rcases List.mem_append.mp hq with hq | hq
      · exact N' q (List.mem_append_left _ (.tail _ hq))
      · rcases List.mem_append.mp hq with hq | hq
        · exact N' q (List.mem_append_right _ (List.mem_append_left _ hq))
        · rcases List.mem_cons.mp hq with rfl | hq
          · exact N' _ (.head _)
          · exact N' q (List.mem_append_right _ (List.mem_append_right _ hq))
    · rcases List.mem_append.mp hx with hx | hx
      · exact .inl (hd q (.tail _ hq) x (List.mem_append_left _ hx))
      · rcases List.mem_cons.mp hx with rfl | hx
        · exact .inr rfl
        · exact .inl (hd q (.tail _ hq) x (List.mem_append_right _ hx))
end
def IsiNo (w : World) (h : Heap) (v : Value) (C : Addr) : Prop :=
  ∀ (A : Around) (E : Value → Shared → Prop) (Q : Value → Shared → Prop) (s : Shared), (∀ b o, h.get? b = some o → s.heap.get? b = some o) → (KX w.params).In s.heap → (∀ tk, Q (.bool false) { s with toks := tk }) →
    wpAny (model PW w) A (call (.builtin "isinstance") [v, .ref C]) Q E s
theorem IsiNo.keeps {w : World} {h h' : Heap} {v : Value} {C : Addr} (x : IsiNo w h v C) (k : ∀ b o, h.get? b = some o → h'.get? b = some o) : IsiNo w h' v C := fun A E Q s k' => x A E Q s fun b o e => k' b o (k b o e)
theorem IsiNo.use {w : World} {A : Around} {E : Value → Shared → Prop} {s : Shared} {h₀ : Heap} {L C : Addr} {m : Str → Option Value} {v : Value} {Q : Value → Shared → Prop} (x : IsiNo w h₀ v C) (F : Fr h₀ L s.heap m) (X : (KX w.params).In h₀) (h : ∀ tk, Q (.bool false) { s with toks := tk }) :
    wpAny (model PW w) A (call (.builtin "isinstance") [v, .ref C]) Q E s := x A E Q s F.keep (X.keeps F.keep) h
end
section
theorem rg_Fetch : True := by
  k_with_none
  (k_with "omA" => (first | (with_reducible (first | exact And.left ‹_› | exact And.left (And.right ‹_›) | exact And.left (And.right (And.right ‹_›)) | exact And.left (And.right (And.right (And.right ‹_›))) | exact And.left (And.right (And.right (And.right (And.right ‹_›)))) | exact And.left (And.right (And.right (And.right (And.right (And.right ‹_›))))) | exact And.left (And.right (And.right (And.right (And.right (And.right (And.right ‹_›)))))) | exact And.left (And.right (And.right (And.right (And.right (And.right (And.right (And.right ‹_›))))))) | exact And.left (And.right (And.right (And.right (And.right (And.right (And.right (And.right (And.right ‹_›)))))))) | exact And.left (And.right (And.right (And.right (And.right (And.right (And.right (And.right (And.right (And.right ‹_›))))))))) | exact And.left (And.right (And.right (And.right (And.right (And.right (And.right (And.right (And.right (And.right (And.right ‹_›)))))))))) | exact And.left (And.right (And.right (And.right (And.right (And.right (And.right (And.right (And.right (And.right (And.right (And.right ‹_›))))))))))) | exact And.left (And.right (And.right (And.right (And.right (And.right (And.right (And.right (And.right (And.right (And.right (And.right (And.right ‹_›)))))))))))) | exact And.left (And.right (And.right (And.right (And.right (And.right (And.right (And.right (And.right (And.right (And.right (And.right (And.right (And.right ‹_›))))))))))))) | exact And.left (And.right (And.right (And.right (And.right (And.right (And.right (And.right (And.right (And.right (And.right (And.right (And.right (And.right (And.right ‹_›)))))))))))))) | exact And.left (And.right (And.right (And.right (And.right (And.right (And.right (And.right (And.right (And.right (And.right (And.right (And.right (And.right (And.right (And.right ‹_›))))))))))))))) | exact And.left (And.right (And.right (And.right (And.right (And.right (And.right (And.right (And.right (And.right (And.right (And.right (And.right (And.right (And.right (And.right (And.right ‹_›)))))))))))))))) | exact And.right ‹_› | exact And.right (And.right ‹_›) | exact And.right (And.right (And.right ‹_›)) | exact And.right (And.right (And.right (And.right ‹_›))) | exact And.right (And.right (And.right (And.right (And.right ‹_›)))))) | fail))
  (k_with "omC" => (first | decide | fail))
  (k_with "omU" => (first | (k_extra "omC") | (with_reducible (first | exact o_le ‹_› (by decide) | exact o_lel ‹_› (by decide) | exact o_mul ‹_› (by decide) (by decide) | exact o_mull ‹_› (by decide) (by decide))) | ((with_reducible refine o_chl ‹_› ?_); k_extra "omU") | ((with_reducible refine o_addc ?_); k_extra "omU") | ((with_reducible refine o_subc ?_); k_extra "omU") | ((with_reducible refine o_subv ‹_› ?_); k_extra "omU") | ((with_reducible refine o_add2 ‹_› ?_); k_extra "omU") | ((with_reducible refine o_add2l ‹_› ?_); k_extra "omU") | ((with_reducible refine o_addl ?_); k_extra "omU") | ((with_reducible refine o_addm ‹_› (by decide) ?_); k_extra "omU") | fail))
  (k_with "omL" => (first | (k_extra "omC") | (with_reducible (first | exact o_ge ‹_› (by decide) | exact o_gel ‹_› (by decide) | exact o_gmul ‹_› (by decide) (by decide))) | ((with_reducible refine o_gaddc ?_); k_extra "omL") | ((with_reducible refine o_gsubc ?_); k_extra "omL") | ((with_reducible refine o_gsubv ‹_› ?_); k_extra "omL") | ((with_reducible refine o_gsubvl ‹_› ?_); k_extra "omL") | ((with_reducible refine o_gadd2 ‹_› ?_); k_extra "omL") | ((with_reducible refine o_gaddl ?_); k_extra "omL") | ((with_reducible refine o_gaddm ‹_› (by decide) ?_); k_extra "omL") | fail))
  (k_with "omR" => (first | (with_reducible (first | exact o_self (by decide))) | ((with_reducible refine o_ch ‹_› ?_); k_extra "omR") | ((with_reducible refine o_addch ?_); k_extra "omR") | fail))
  (k_with "omZ" => (first | (k_extra "omR") | (k_extra "omU") | (k_extra "omL") | fail))
  (k_with "omX" => (first | decide | (k_extra "omZ") | (with_reducible (first | exact Int.le_refl _ | exact Nat.le_refl _ | exact o_nle ‹_› (by decide) | exact o_nlt ‹_› (by decide) | exact o_nlel ‹_› (by decide))) | ((with_reducible refine o_ltc ?_); k_extra "omZ") | ((with_reducible refine o_gtc ?_); k_extra "omZ") | (with_reducible (first | exact o_iffn ‹_› ‹_› | exact o_neql ‹_› (by decide) | exact o_neqi ‹_› (by decide))) | ((with_reducible show _ < _); (first | (with_reducible exact Iff.mp ‹_› ‹_›) | k_extra "omA")) | ((repeat (rename _ ≠ _ => hz; clear hz)); (repeat (rename _ ≠ _ ∧ _ => hz; clear hz)); omega +splitDisjunctions) | fail))
  (k_with "omN" => (first | (with_reducible (first | exact o_n1 | exact o_n1' | exact o_ne ‹_› | exact o_ne' ‹_› | exact o_lt ‹_› | exact o_gt ‹_› | exact o_ne (by k_extra "omA") | exact o_ne' (by k_extra "omA") | exact o_lt (by k_extra "omA") | exact o_gt (by k_extra "omA") | exact o_lts1 (by k_extra "omA") | exact o_lts1' (by k_extra "omA") | exact o_lts2 (by k_extra "omA") | exact o_lts2' (by k_extra "omA") | exact o_gt2 ‹_› (by k_extra "omA") | exact o_lt2 ‹_› (by k_extra "omA"))) | fail))
  (k_with "om" => (first | with_reducible assumption | ((first | (with_reducible show _ ≤ _) | (with_reducible show _ < _)); k_extra "omX") | ((with_reducible show _ = _ → False); k_extra "omN") | fail))
  trivial
open PySem PySem.W PyProof.Rows PySem.Calls
theorem reg_fetch : PySem.Challenge.rw_nn0125_01 = PySem.Challenge.rw_nn0125_01 ∧ KX = KX := by k_fill; exact ⟨rfl, rfl⟩
section
variable {w : World} {p : Program} {loose : List Str} {mean : ExcName → Option Value} {mg mb : Str → Option Value} {base : Heap} {outer : List Env} {s : Shared} {dp un : Nat} {gd : Option (List Code)}
theorem rg_Fetch4 : True := by
  (k_with "exec For Name Call cons nil" => ((k_here; (rename Fr _ _ _ _ => lF'); (with_unfolding_all refine' For_invVF lF' ?k1z1 ?k2z1 ?_; (case k1z1 => exact rfl); (case k2z1 => exact rfl); k_whole))))
  (k_with "exec For Name Subscript cons nil" => ((k_here; (rename Fr _ _ _ _ => lF'); (with_unfolding_all refine' For_invVF lF' ?k1z2 ?k2z2 ?_; (case k1z2 => exact rfl); (case k2z2 => exact rfl); k_whole))))
  (k_with "k_inst" => ((refine' inst_base ?Fz3 ?h1z3 ?h2z3; (case Fz3 => k_asm); (case h1z3 => assumption); (case h2z3 => assumption))))
  (k_with "pyIter ref" => (((with_reducible show wpAny _ _ (pyIter (Value.ref _)) (fun it s₂ => LoopAtV _ _ _ _ _ _ _ _ _ it s₂) _ _); (rename Fr _ _ _ _ => lF'); (rename News _ _ _ _ => lN'); (rename IsRange _ _ _ _ _ _ _ _ => lR'); (with_unfolding_all refine iter_rangeUnr (n := 30) (by rfl) lR' (by decide) (by decide) lF' lN' ?_); clear lF' lN'; intro _ l1; (try k_lt l1); revert l1; intro _)))
  (k_with "getMethod ref" => ((k_here; (with_reducible show wpAny _ _ (getMethod (Value.ref _) (PySem.Str.ofString "get") _) _ _ _); k_dflt (refine' tab_method ?Fz5 ?Tz5 ?dz5 ?_; (case Fz5 => k_asm); (case Tz5 => assumption); (case dz5 => assumption)))))
  (k_with "call builtin:dict.get" => ((k_here; k_dflt (refine' tab_get ?Fz6 ?Tz6 ?dz6 ?loz6 ?lz6 ?_; (case Fz6 => k_asm); (case Tz6 => assumption); (case dz6 => assumption); (case loz6 => assumption); (case lz6 => assumption)); (try dsimp only [Option.getD_none, Option.getD_some]))))
  (k_with "call builtin:isinstance" => ((k_here; refine' IsiNo.use ?xz7 ?Fz7 ?Xz7 ?_; (case xz7 => assumption); (case Fz7 => k_asm); (case Xz7 => k_asm); intro _)))
  (k_with "assign Tuple" => ((k_here; (with_reducible show wpAny _ _ (assign (Expr.Tuple _ _ _) _ (Value.ref _)) _ _ _); k_dflt (refine' unpackN_ ?k1z8 ?k2z8 ?k3z8 ?k4z8 ?k5z8 ?k6z8 ?_; (case k1z8 => k_asm); (case k2z8 => k_asm); (case k3z8 => (refine' tup_base ?Fz8 ?hz8; (case Fz8 => k_asm); (case hz8 => assumption))); (case k4z8 => exact rfl); (case k5z8 => exact rfl); (case k6z8 => exact rfl); k_whole); intro _ _ _; (try k_sweep))))
  trivial
set_option maxRecDepth 100000
set_option maxHeartbeats 8000000
theorem fetch_val {S : Addr} {v : Value} (hdp : dp ≤ 600) (hun : un ≤ 5000) (Cc : Cx w p loose mean mg mb base outer s.heap) (hv : IsiNo w s.heap v 289) :
    wpAny (model PW w) (kA dp un gd outer) (call (.ref 341) [.ref S, v]) (Ok s [] (fun nw r => nw = [] ∧ r = v)) Never s := by
  refine wpAny_le (dp' := 600) (un' := 5000) ?_ hdp hun
  refine wpAny_call ?_
  k_dflt (refine' enterP Cc ?k6 ?k7 ?k8 ?k9 ?kB ?_ ?c2 ?c3 ?c4 ?c5; (case k6 => k_is); (case k7 => k_is); (case k8 => decide); (case k9 => exact BindsTo.of_eq rfl); (case c5 => decide); (case kB => exact locs rfl); (case c2 => exact rfl); (case c3 => exact rfl); (case c4 => exact rfl))
  intro L' h' F' N' B' X' T'
  (try dsimp only); (try k_fold)
  repeat' (first | (k_end; exact pure_end (nw := []) (by assumption) (by assumption) (fun _ hq => nomatch hq) ⟨rfl, rfl⟩) | (k_unfold; (try dsimp only)) | walk1 | (dsimp only; walk1) | fail "no step")
  all_goals w_report
theorem fetch_none {S dS T T2 R dR : Addr} {oT : Obj} {kvs : List (Int × Value)} {num : Int} {k1 k2 k3 k4 k5 k6 : Tok} (hdp : dp ≤ 600) (hun : un ≤ 5000) (Cc : Cx w p loose mean mg mb base outer s.heap)
    (hS : s.heap.get? S = some (instObj 405 dS)) (hdS : s.heap.get? dS = some (shD w k1 k2 T T2)) (hT : s.heap.get? T = some oT) (hR : s.heap.get? R = some (instObj 289 dR)) (hdR : s.heap.get? dR = some (refD w k3 k4 k5 k6 num 0))
    (hd : oT.IsDictOf (intKind PW w) kvs) (lo : (T == sysModules) = false) (hv : valueAt kvs num = none) :
    wpAny (model PW w) (kA dp un gd outer) (call (.ref 341) [.ref S, .ref R]) (Ok s [] (fun nw r => nw = [] ∧ r = .none)) Never s := by
  refine wpAny_le (dp' := 600) (un' := 5000) ?_ hdp hun
  refine wpAny_call ?_
  k_dflt (refine' enterP Cc ?k6 ?k7 ?k8 ?k9 ?kB ?_ ?c2 ?c3 ?c4 ?c5; (case k6 => k_is); (case k7 => k_is); (case k8 => decide); (case k9 => exact BindsTo.of_eq rfl); (case c5 => decide); (case kB => exact locs rfl); (case c2 => exact rfl); (case c3 => exact rfl); (case c4 => exact rfl))
  intro L' h' F' N' B' X' T'
  (try dsimp only); (try k_fold)
  repeat' (first | (k_end; exact pure_end (nw := []) (by assumption) (by assumption) (fun _ hq => nomatch hq) ⟨rfl, rfl⟩) | (k_unfold; (try dsimp only)) | walk1 | (dsimp only; walk1) | fail "no step")
  all_goals w_report
theorem fetch_tab {S dS T T2 R dR t : Addr} {oT : Obj} {kvs : List (Int × Value)} {num : Int} {k0 k1 k2 k3 k4 k5 k6 : Tok} {v : Value} {nn : Nat} (hdp : dp ≤ 600) (hun : un ≤ 5000) (Cc : Cx w p loose mean mg mb base outer s.heap)
    (hS : s.heap.get? S = some (instObj 405 dS)) (hdS : s.heap.get? dS = some (shD w k1 k2 T T2)) (hT : s.heap.get? T = some oT) (hR : s.heap.get? R = some (instObj 289 dR)) (hdR : s.heap.get? dR = some (refD w k3 k4 k5 k6 num 0))
    (hd : oT.IsDictOf (intKind PW w) kvs) (lo : (T == sysModules) = false) (hv : valueAt kvs num = some (.ref t)) (ht : s.heap.get? t = some ({ cls := .type "tuple", data := .seq #[.int 0 k0, v] nn } : Obj)) (hn : IsiNo w s.heap v 289) :
    wpAny (model PW w) (kA dp un gd outer) (call (.ref 341) [.ref S, .ref R]) (Ok s [] (fun nw r => nw = [] ∧ r = v)) Never s := by
  refine wpAny_le (dp' := 600) (un' := 5000) ?_ hdp hun
  refine wpAny_call ?_
  k_dflt (refine' enterP Cc ?k6 ?k7 ?k8 ?k9 ?kB ?_ ?c2 ?c3 ?c4 ?c5; (case k6 => k_is); (case k7 => k_is); (case k8 => decide); (case k9 => exact BindsTo.of_eq rfl); (case c5 => decide); (case kB => exact locs rfl); (case c2 => exact rfl); (case c3 => exact rfl); (case c4 => exact rfl))
  intro L' h' F' N' B' X' T'
  (try dsimp only); (try k_fold)
  repeat' (first | (k_end; exact pure_end (nw := []) (by assumption) (by assumption) (fun _ hq => nomatch hq) ⟨rfl, rfl⟩) | (k_unfold; (try dsimp only)) | walk1 | (dsimp only; walk1) | fail "no step")
  all_goals w_report
theorem dof_dec {a da : Addr} {o : Obj} (hdp : dp ≤ 600) (hun : un ≤ 5000) (Cc : Cx w p loose mean mg mb base outer s.heap) (h1 : s.heap.get? a = some (instObj 155 da)) (h2 : s.heap.get? da = some o) :
    wpAny (model PW w) (kA dp un gd outer) (call (.ref 180) [.ref a]) (Ok s [] (fun nw r => nw = [] ∧ r = .ref a)) Never s := by
  refine wpAny_le (dp' := 600) (un' := 5000) ?_ hdp hun
  refine wpAny_call ?_
  k_dflt (refine' enterP Cc ?k6 ?k7 ?k8 ?k9 ?kB ?_ ?c2 ?c3 ?c4 ?c5; (case k6 => k_is); (case k7 => k_is); (case k8 => decide); (case k9 => exact BindsTo.of_eq rfl); (case c5 => decide); (case kB => exact locs rfl); (case c2 => exact rfl); (case c3 => exact rfl); (case c4 => exact rfl))
  intro L' h' F' N' B' X' T'
  (try dsimp only); (try k_fold)
  repeat' (first | (k_end; exact pure_end (nw := []) (by assumption) (by assumption) (fun _ hq => nomatch hq) ⟨rfl, rfl⟩) | (k_unfold; (try dsimp only)) | walk1 | (dsimp only; walk1) | fail "no step")
  all_goals w_report
end
end
section
theorem rg_Dec : True := by
  k_with_none
  (k_with "omA" => (first | (with_reducible (first | exact And.left ‹_› | exact And.left (And.right ‹_›) | exact And.left (And.right (And.right ‹_›)) | exact And.left (And.right (And.right (And.right ‹_›))) | exact And.left (And.right (And.right (And.right (And.right ‹_›)))) | exact And.left (And.right (And.right (And.right (And.right (And.right ‹_›))))) | exact And.left (And.right (And.right (And.right (And.right (And.right (And.right ‹_›)))))) | exact And.left (And.right (And.right (And.right (And.right (And.right (And.right (And.right ‹_›))))))) | exact And.left (And.right (And.right (And.right (And.right (And.right (And.right (And.right (And.right ‹_›)))))))) | exact And.left (And.right (And.right (And.right (And.right (And.right (And.right (And.right (And.right (And.right ‹_›))))))))) | exact And.left (And.right (And.right (And.right (And.right (And.right (And.right (And.right (And.right (And.right (And.right ‹_›)))))))))) | exact And.left (And.right (And.right (And.right (And.right (And.right (And.right (And.right (And.right (And.right (And.right (And.right ‹_›))))))))))) | exact And.left (And.right (And.right (And.right (And.right (And.right (And.right (And.right (And.right (And.right (And.right (And.right (And.right ‹_›)))))))))))) | exact And.left (And.right (And.right (And.right (And.right (And.right (And.right (And.right (And.right (And.right (And.right (And.right (And.right (And.right ‹_›))))))))))))) | exact And.left (And.right (And.right (And.right (And.right (And.right (And.right (And.right (And.right (And.right (And.right (And.right (And.right (And.right (And.right ‹_›)))))))))))))) | exact And.left (And.right (And.right (And.right (And.right (And.right (And.right (And.right (And.right (And.right (And.right (And.right (And.right (And.right (And.right (And.right ‹_›))))))))))))))) | exact And.left (And.right (And.right (And.right (And.right (And.right (And.right (And.right (And.right (And.right (And.right (And.right (And.right (And.right (And.right (And.right (And.right ‹_›)))))))))))))))) | exact And.right ‹_› | exact And.right (And.right ‹_›) | exact And.right (And.right (And.right ‹_›)) | exact And.right (And.right (And.right (And.right ‹_›))) | exact And.right (And.right (And.right (And.right (And.right ‹_›)))))) | fail))
  (k_with "omC" => (first | decide | fail))
  (k_with "omU" => (first | (k_extra "omC") | (with_reducible (first | exact o_le ‹_› (by decide) | exact o_lel ‹_› (by decide) | exact o_mul ‹_› (by decide) (by decide) | exact o_mull ‹_› (by decide) (by decide))) | ((with_reducible refine o_chl ‹_› ?_); k_extra "omU") | ((with_reducible refine o_addc ?_); k_extra "omU") | ((with_reducible refine o_subc ?_); k_extra "omU") | ((with_reducible refine o_subv ‹_› ?_); k_extra "omU") | ((with_reducible refine o_add2 ‹_› ?_); k_extra "omU") | ((with_reducible refine o_add2l ‹_› ?_); k_extra "omU") | ((with_reducible refine o_addl ?_); k_extra "omU") | ((with_reducible refine o_addm ‹_› (by decide) ?_); k_extra "omU") | fail))
  (k_with "omL" => (first | (k_extra "omC") | (with_reducible (first | exact o_ge ‹_› (by decide) | exact o_gel ‹_› (by decide) | exact o_gmul ‹_› (by decide) (by decide))) | ((with_reducible refine o_gaddc ?_); k_extra "omL") | ((with_reducible refine o_gsubc ?_); k_extra "omL") | ((with_reducible refine o_gsubv ‹_› ?_); k_extra "omL") | ((with_reducible refine o_gsubvl ‹_› ?_); k_extra "omL") | ((with_reducible refine o_gadd2 ‹_› ?_); k_extra "omL") | ((with_reducible refine o_gaddl ?_); k_extra "omL") | ((with_reducible refine o_gaddm ‹_› (by decide) ?_); k_extra "omL") | fail))
  (k_with "omR" => (first | (with_reducible (first | exact o_self (by decide))) | ((with_reducible refine o_ch ‹_› ?_); k_extra "omR") | ((with_reducible refine o_addch ?_); k_extra "omR") | fail))
  (k_with "omZ" => (first | (k_extra "omR") | (k_extra "omU") | (k_extra "omL") | fail))
  (k_with "omX" => (first | decide | (k_extra "omZ") | (with_reducible (first | exact Int.le_refl _ | exact Nat.le_refl _ | exact o_nle ‹_› (by decide) | exact o_nlt ‹_› (by decide) | exact o_nlel ‹_› (by decide))) | ((with_reducible refine o_ltc ?_); k_extra "omZ") | ((with_reducible refine o_gtc ?_); k_extra "omZ") | (with_reducible (first | exact o_iffn ‹_› ‹_› | exact o_neql ‹_› (by decide) | exact o_neqi ‹_› (by decide))) | ((with_reducible show _ < _); (first | (with_reducible exact Iff.mp ‹_› ‹_›) | k_extra "omA")) | ((repeat (rename _ ≠ _ => hz; clear hz)); (repeat (rename _ ≠ _ ∧ _ => hz; clear hz)); omega +splitDisjunctions) | fail))
  (k_with "omN" => (first | (with_reducible (first | exact o_n1 | exact o_n1' | exact o_ne ‹_› | exact o_ne' ‹_› | exact o_lt ‹_› | exact o_gt ‹_› | exact o_ne (by k_extra "omA") | exact o_ne' (by k_extra "omA") | exact o_lt (by k_extra "omA") | exact o_gt (by k_extra "omA") | exact o_lts1 (by k_extra "omA") | exact o_lts1' (by k_extra "omA") | exact o_lts2 (by k_extra "omA") | exact o_lts2' (by k_extra "omA") | exact o_gt2 ‹_› (by k_extra "omA") | exact o_lt2 ‹_› (by k_extra "omA"))) | fail))
  (k_with "om" => (first | with_reducible assumption | ((first | (with_reducible show _ ≤ _) | (with_reducible show _ < _)); k_extra "omX") | ((with_reducible show _ = _ → False); k_extra "omN") | fail))
  trivial
open PySem PySem.W PyProof.Rows PySem.Calls
theorem reg_dec : PySem.Challenge.rw_nn0125_01 = PySem.Challenge.rw_nn0125_01 ∧ KX = KX := by k_fill; exact ⟨rfl, rfl⟩
section
variable {prog : Program} {w : World} {A : Around} {E : Value → Shared → Prop} {s : Shared} {Q : Value → Shared → Prop} {a b : Int} {t u : Tok}
theorem pow_ex (ha : -(2 ^ 64) < a) (ha' : a < 2 ^ 64) (hb : 0 ≤ b) (hb' : b ≤ 1000) (h : Q (.int (a ^ b.toNat) s.toks) { s with toks := s.toks + 1 }) : wpAny (model prog w) A (binaryOp .Pow (.int a t) (.int b u)) Q E s :=
  pow_int_small hb (by omega) (by omega) h
end
def wth (t p : Int) : Int := t * 10 ^ (3 - p).toNat
inductive DecPost (w : World) (t p : Int) (nw : Led) (r : Value) : Prop
  | mk : ∀ a da k1 k2 k3 k4, nw = [(a, instObj 155 da), (da, decD w k1 k2 k3 k4 t p)] → r = .ref a → DecPost w t p nw r
theorem dec_end {w : World} {s : Shared} {h' : Heap} {L a da : Addr} {m : Str → Option Value} {all : Led} {tk : Nat} {k1 k2 k3 k4 : Tok} {t p : Int} (F : Fr s.heap L h' m) (N : News s.heap L h' all) (h1 : (a, instObj 155 da) ∈ all) (h2 : (da, decD w k1 k2 k3 k4 t p) ∈ all) :
    Ok s [] (DecPost w t p) (.ref a) { s with heap := h', toks := tk } :=
  pure_end (nw := [(a, instObj 155 da), (da, decD w k1 k2 k3 k4 t p)]) F N (List.forall_mem_cons.mpr ⟨h1, List.forall_mem_cons.mpr ⟨h2, fun _ hq => nomatch hq⟩⟩) ⟨_, _, _, _, _, _, rfl, rfl⟩
inductive InitPost (w : World) (x dx : Addr) (t p : Int) (nw : Led) (r : Value) : Prop
  | mk : ∀ t' p' k1 k2 k3 k4, nw = [(x, instObj 155 dx), (dx, decD w k1 k2 k3 k4 t' p')] → r = .none → 0 ≤ p' → p' ≤ p → -1000000 ≤ t' → t' ≤ 1000000 → ((p' = p ∧ t' = t ∨ p' = p - 1 ∧ t = t' * 10 ∨ p' = p - 2 ∧ t = t' * 100 ∨ p' = p - 3 ∧ t = t' * 1000)) → InitPost w x dx t p nw r
theorem init_end {w : World} {s : Shared} {g h' : Heap} {L x dx : Addr} {m : Str → Option Value} {all : Led} {tk : Nat} {k1 k2 k3 k4 : Tok} {t p t' p' : Int} {od : Obj} (G : Ground s [(x, instObj 155 dx), (dx, od)] g) (F : Fr g L h' m) (N : News g L h' all) (h1 : (x, instObj 155 dx) ∈ all) (h2 : (dx, decD w k1 k2 k3 k4 t' p') ∈ all)
    (q1 : 0 ≤ p') (q2 : p' ≤ p) (q3 : -1000000 ≤ t') (q4 : t' ≤ 1000000) (q5 : p' = p ∧ t' = t ∨ p' = p - 1 ∧ t = t' * 10 ∨ p' = p - 2 ∧ t = t' * 100 ∨ p' = p - 3 ∧ t = t' * 1000) : Ok s [x, dx] (InitPost w x dx t p) .none { s with heap := h', toks := tk } :=
  led_end (nw := [(x, instObj 155 dx), (dx, decD w k1 k2 k3 k4 t' p')]) G F N (List.forall_mem_cons.mpr ⟨h1, List.forall_mem_cons.mpr ⟨h2, fun _ hq => nomatch hq⟩⟩) ⟨_, _, _, _, _, _, rfl, rfl, q1, q2, q3, q4, q5⟩
theorem fd10 (a : Int) : a = 10 * a.fdiv 10 + a.fmod 10 ∧ 0 ≤ a.fmod 10 ∧ a.fmod 10 < 10 := by
  rw [Int.fdiv_eq_ediv_of_nonneg a (by decide), Int.fmod_eq_emod_of_nonneg a (by decide)]
  exact ⟨(Int.mul_ediv_add_emod a 10).symm, Int.emod_nonneg a (by decide), Int.emod_lt_of_pos a (by decide)⟩
theorem fd_lo {a : Int} (h : -1000000 ≤ a) : -1000000 ≤ a.fdiv 10 := by
  have := fd10 a
  omega
theorem fd_hi {a : Int} (h : a ≤ 1000000) : a.fdiv 10 ≤ 1000000 := by
  have := fd10 a
  omega
theorem fd_1 {a : Int} (h : a.fmod 10 = 0) : a = a.fdiv 10 * 10 := by
  have := (fd10 a).1
  rw [h, Int.add_zero, Int.mul_comm] at this
  exact this
theorem fd_2 {a : Int} (h : a.fmod 10 = 0) (h2 : (a.fdiv 10).fmod 10 = 0) : a = (a.fdiv 10).fdiv 10 * 100 := by
  have := fd_1 h
  rw [fd_1 h2, Int.mul_assoc] at this
  exact this
theorem fd_3 {a : Int} (h : a.fmod 10 = 0) (h2 : (a.fdiv 10).fmod 10 = 0) (h3 : ((a.fdiv 10).fdiv 10).fmod 10 = 0) : a = ((a.fdiv 10).fdiv 10).fdiv 10 * 1000 := by
  have := fd_2 h h2
  rw [fd_1 h3, Int.mul_assoc] at this
  exact this
theorem s2 {a : Int} : a - 1 - 1 = a - 2 := by omega
theorem s3 {a : Int} : a - 1 - 1 - 1 = a - 3 := by omega
section
variable {w : World} {p : Program} {loose : List Str} {mean : ExcName → Option Value} {mg mb : Str → Option Value} {base : Heap} {outer : List Env} {s : Shared} {dp un : Nat} {gd : Option (List Code)}
theorem rg_Dec44 : True := by
  (k_with "exec For Name Call cons nil" => ((k_here; (rename Fr _ _ _ _ => lF'); (with_unfolding_all refine' For_invVF lF' ?k1z1 ?k2z1 ?_; (case k1z1 => exact rfl); (case k2z1 => exact rfl); k_whole))))
  (k_with "exec For Name Subscript cons nil" => ((k_here; (rename Fr _ _ _ _ => lF'); (with_unfolding_all refine' For_invVF lF' ?k1z2 ?k2z2 ?_; (case k1z2 => exact rfl); (case k2z2 => exact rfl); k_whole))))
  (k_with "exec While BoolOp" => ((k_here; k_dflt (refine whl_start 100 ?_))))
  (k_with "exec While Compare" => ((k_here; k_dflt (refine whl_start 100 ?_))))
  (k_with "binaryOp Pow int int" => ((k_here; (with_reducible refine pow_ex ?haz5 ?hXz5 ?hbz5 ?hYz5 ?_); (case haz5 => decide); (case hXz5 => decide); (case hbz5 => omega); (case hYz5 => omega))))
  (k_with "binaryOp Mult int int" => ((k_here; (with_reducible refine mul_linL ?haz6 ?hbz6 ?_); (case haz6 => omega); (case hbz6 => omega))))
  trivial
set_option maxRecDepth 100000
set_option maxHeartbeats 8000000
theorem dof_int {i : Int} {k : Tok} (hdp : dp ≤ 600) (hun : un ≤ 5000) (Cc : Cx w p loose mean mg mb base outer s.heap) :
    wpAny (model PW w) (kA dp un gd outer) (call (.ref 180) [.int i k]) (Ok s [] (DecPost w i 0)) Never s := by
  refine wpAny_le (dp' := 600) (un' := 5000) ?_ hdp hun
  refine wpAny_call ?_
  k_dflt (refine' enterP Cc ?k6 ?k7 ?k8 ?k9 ?kB ?_ ?c2 ?c3 ?c4 ?c5; (case k6 => k_is); (case k7 => k_is); (case k8 => decide); (case k9 => exact BindsTo.of_eq rfl); (case c5 => decide); (case kB => exact locs rfl); (case c2 => exact rfl); (case c3 => exact rfl); (case c4 => exact rfl))
  intro L' h' F' N' B' X' T'
  (try dsimp only); (try k_fold)
  repeat' (first | (k_end; exact dec_end (by assumption) (by assumption) (by k_mem) (by k_mem)) | (k_unfold; (try dsimp only)) | walk1 | (dsimp only; walk1) | fail "no step")
  all_goals w_report
theorem init_ok {x dx : Addr} {top places : Int} {k k' : Tok} (Cc : Cx w p loose mean mg mb base outer s.heap) (hl : LedOk base outer s.heap [(x, instObj 155 dx), (dx, dictOf [] 0)]) (hne : x ≠ dx)
    (h1 : -1000000 ≤ top) (h2 : top ≤ 1000000) (h3 : 0 ≤ places) (h4 : places ≤ 3) :
    codeAny (model PW w) (kA 600 5000 gd outer) (.call (.ref 75) ⟨[.ref x, .int top k, .int places k'], []⟩) (RetOk (Ok s [x, dx] (InitPost w x dx top places))) s := by
  have hne' : dx ≠ x := fun e => hne e.symm
  k_dflt (refine' enter (led := [(x, instObj 155 dx), (dx, dictOf [] 0)]) Cc hl ?k6 ?k7 ?k8 ?k9 ?kB ?_ ?c2 ?c3 ?c4 ?c5; (case k6 => k_is); (case k7 => k_is); (case k8 => decide); (case k9 => exact BindsTo.of_eq rfl); (case c5 => decide); (case kB => exact locs rfl); (case c2 => exact rfl); (case c3 => exact rfl); (case c4 => exact rfl))
  intro g L' h' G hL' F' N' B' X' T'
  (try dsimp only); (try k_fold)
  repeat' (first | (k_end; exact init_end G (by assumption) (by assumption) (by k_mem) (by k_mem) (by omega) (by omega) (by first | assumption | exact fd_lo h1 | exact fd_lo (fd_lo h1) | exact fd_lo (fd_lo (fd_lo h1))) (by first | assumption | exact fd_hi h2 | exact fd_hi (fd_hi h2) | exact fd_hi (fd_hi (fd_hi h2))) (by first | exact .inl ⟨rfl, rfl⟩ | exact .inr (.inl ⟨rfl, fd_1 (by assumption)⟩) | exact .inr (.inr (.inl ⟨s2, fd_2 (by assumption) (by assumption)⟩)) | exact .inr (.inr (.inr ⟨s3, fd_3 (by assumption) (by assumption) (by assumption)⟩)))) | (k_unfold; (try dsimp only)) | walk1 | (dsimp only; walk1) | fail "no step")
  all_goals w_report
end
end
section
theorem rg_Cmp : True := by
  k_with_none
  (k_with "omA" => (first | (with_reducible (first | exact And.left ‹_› | exact And.left (And.right ‹_›) | exact And.left (And.right (And.right ‹_›)) | exact And.left (And.right (And.right (And.right ‹_›))) | exact And.left (And.right (And.right (And.right (And.right ‹_›)))) | exact And.left (And.right (And.right (And.right (And.right (And.right ‹_›))))) | exact And.left (And.right (And.right (And.right (And.right (And.right (And.right ‹_›)))))) | exact And.left (And.right (And.right (And.right (And.right (And.right (And.right (And.right ‹_›))))))) | exact And.left (And.right (And.right (And.right (And.right (And.right (And.right (And.right (And.right ‹_›)))))))) | exact And.left (And.right (And.right (And.right (And.right (And.right (And.right (And.right (And.right (And.right ‹_›))))))))) | exact And.left (And.right (And.right (And.right (And.right (And.right (And.right (And.right (And.right (And.right (And.right ‹_›)))))))))) | exact And.left (And.right (And.right (And.right (And.right (And.right (And.right (And.right (And.right (And.right (And.right (And.right ‹_›))))))))))) | exact And.left (And.right (And.right (And.right (And.right (And.right (And.right (And.right (And.right (And.right (And.right (And.right (And.right ‹_›)))))))))))) | exact And.left (And.right (And.right (And.right (And.right (And.right (And.right (And.right (And.right (And.right (And.right (And.right (And.right (And.right ‹_›))))))))))))) | exact And.left (And.right (And.right (And.right (And.right (And.right (And.right (And.right (And.right (And.right (And.right (And.right (And.right (And.right (And.right ‹_›)))))))))))))) | exact And.left (And.right (And.right (And.right (And.right (And.right (And.right (And.right (And.right (And.right (And.right (And.right (And.right (And.right (And.right (And.right ‹_›))))))))))))))) | exact And.left (And.right (And.right (And.right (And.right (And.right (And.right (And.right (And.right (And.right (And.right (And.right (And.right (And.right (And.right (And.right (And.right ‹_›)))))))))))))))) | exact And.right ‹_› | exact And.right (And.right ‹_›) | exact And.right (And.right (And.right ‹_›)) | exact And.right (And.right (And.right (And.right ‹_›))) | exact And.right (And.right (And.right (And.right (And.right ‹_›)))))) | fail))
  (k_with "omC" => (first | decide | fail))
  (k_with "omU" => (first | (k_extra "omC") | (with_reducible (first | exact o_le ‹_› (by decide) | exact o_lel ‹_› (by decide) | exact o_mul ‹_› (by decide) (by decide) | exact o_mull ‹_› (by decide) (by decide))) | ((with_reducible refine o_chl ‹_› ?_); k_extra "omU") | ((with_reducible refine o_addc ?_); k_extra "omU") | ((with_reducible refine o_subc ?_); k_extra "omU") | ((with_reducible refine o_subv ‹_› ?_); k_extra "omU") | ((with_reducible refine o_add2 ‹_› ?_); k_extra "omU") | ((with_reducible refine o_add2l ‹_› ?_); k_extra "omU") | ((with_reducible refine o_addl ?_); k_extra "omU") | ((with_reducible refine o_addm ‹_› (by decide) ?_); k_extra "omU") | fail))
  (k_with "omL" => (first | (k_extra "omC") | (with_reducible (first | exact o_ge ‹_› (by decide) | exact o_gel ‹_› (by decide) | exact o_gmul ‹_› (by decide) (by decide))) | ((with_reducible refine o_gaddc ?_); k_extra "omL") | ((with_reducible refine o_gsubc ?_); k_extra "omL") | ((with_reducible refine o_gsubv ‹_› ?_); k_extra "omL") | ((with_reducible refine o_gsubvl ‹_› ?_); k_extra "omL") | ((with_reducible refine o_gadd2 ‹_› ?_); k_extra "omL") | ((with_reducible refine o_gaddl ?_); k_extra "omL") | ((with_reducible refine o_gaddm ‹_› (by decide) ?_); k_extra "omL") | fail))
  (k_with "omR" => (first | (with_reducible (first | exact o_self (by decide))) | ((with_reducible refine o_ch ‹_› ?_); k_extra "omR") | ((with_reducible refine o_addch ?_); k_extra "omR") | fail))
  (k_with "omZ" => (first | (k_extra "omR") | (k_extra "omU") | (k_extra "omL") | fail))
  (k_with "omX" => (first | decide | (k_extra "omZ") | (with_reducible (first | exact Int.le_refl _ | exact Nat.le_refl _ | exact o_nle ‹_› (by decide) | exact o_nlt ‹_› (by decide) | exact o_nlel ‹_› (by decide))) | ((with_reducible refine o_ltc ?_); k_extra "omZ") | ((with_reducible refine o_gtc ?_); k_extra "omZ") | (with_reducible (first | exact o_iffn ‹_› ‹_› | exact o_neql ‹_› (by decide) | exact o_neqi ‹_› (by decide))) | ((with_reducible show _ < _); (first | (with_reducible exact Iff.mp ‹_› ‹_›) | k_extra "omA")) | ((repeat (rename _ ≠ _ => hz; clear hz)); (repeat (rename _ ≠ _ ∧ _ => hz; clear hz)); omega +splitDisjunctions) | fail))
  (k_with "omN" => (first | (with_reducible (first | exact o_n1 | exact o_n1' | exact o_ne ‹_› | exact o_ne' ‹_› | exact o_lt ‹_› | exact o_gt ‹_› | exact o_ne (by k_extra "omA") | exact o_ne' (by k_extra "omA") | exact o_lt (by k_extra "omA") | exact o_gt (by k_extra "omA") | exact o_lts1 (by k_extra "omA") | exact o_lts1' (by k_extra "omA") | exact o_lts2 (by k_extra "omA") | exact o_lts2' (by k_extra "omA") | exact o_gt2 ‹_› (by k_extra "omA") | exact o_lt2 ‹_› (by k_extra "omA"))) | fail))
  (k_with "om" => (first | with_reducible assumption | ((first | (with_reducible show _ ≤ _) | (with_reducible show _ < _)); k_extra "omX") | ((with_reducible show _ = _ → False); k_extra "omN") | fail))
  trivial
open PySem PySem.W PyProof.Rows PySem.Calls
theorem reg_cmp : PySem.Challenge.rw_nn0125_01 = PySem.Challenge.rw_nn0125_01 ∧ KX = KX := by k_fill; exact ⟨rfl, rfl⟩
theorem wth_at {t p m : Int} (h1 : p ≤ m) (h2 : m ≤ 3) : wth t p = t * 10 ^ (m - p).toNat * 10 ^ (3 - m).toNat := by
  have e : (3 - p).toNat = (m - p).toNat + (3 - m).toNat := by omega
  unfold wth
  rw [e, Int.pow_add, Int.mul_assoc]
theorem cmp_scale {a b c : Int} (hc : 0 < c) : (0 < a - b ↔ b * c < a * c) ∧ (a - b = 0 ↔ a * c = b * c) :=
  ⟨⟨fun h => Int.mul_lt_mul_of_pos_right (Int.lt_of_sub_pos h) hc, fun h => Int.sub_pos_of_lt (Int.lt_of_mul_lt_mul_right h (Int.le_of_lt hc))⟩,
   ⟨fun h => by rw [Int.sub_eq_zero.mp h], fun h => Int.sub_eq_zero.mpr (Int.eq_of_mul_eq_mul_right (Int.ne_of_gt hc) h)⟩⟩
theorem cmp_law {t1 p1 t2 p2 : Int} (ub1 : 0 ≤ p1) (b2 : p1 ≤ 3) (ub3 : 0 ≤ p2) (b4 : p2 ≤ 3) :
    (0 < t1 * 10 ^ ((if p2 > p1 then p2 else p1) - p1).toNat - t2 * 10 ^ ((if p2 > p1 then p2 else p1) - p2).toNat ↔ wth t2 p2 < wth t1 p1) ∧
    (t1 * 10 ^ ((if p2 > p1 then p2 else p1) - p1).toNat - t2 * 10 ^ ((if p2 > p1 then p2 else p1) - p2).toNat = 0 ↔ wth t1 p1 = wth t2 p2) := by
  have m1 : p1 ≤ (if p2 > p1 then p2 else p1) := by
    split
    · exact Int.le_of_lt (by assumption)
    · exact Int.le_refl _
  have m2 : p2 ≤ (if p2 > p1 then p2 else p1) := by
    split
    · exact Int.le_refl _
    · exact Int.not_lt.mp (by assumption)
  have m3 : (if p2 > p1 then p2 else p1) ≤ 3 := by
    split
    · exact b4
    · exact b2
  rw [wth_at m1 m3, wth_at m2 m3]
  exact cmp_scale (Int.pow_pos (by decide))
theorem if_lo {p1 p2 p3 : Int} (h : p3 = p1 ∨ p3 = p2) : 0 ≤ (if p2 > p1 then p2 else p1) - p3 := by
  split <;> omega
theorem if_hi {p1 p2 p3 : Int} (b2 : p1 ≤ 3) (b4 : p2 ≤ 3) (b3 : 0 ≤ p3) : (if p2 > p1 then p2 else p1) - p3 ≤ 1000 := by
  split <;> omega
theorem sg_zero {d W1 W2 : Int} (law : (0 < d ↔ W2 < W1) ∧ (d = 0 ↔ W1 = W2)) (h : d = 0) : ((0 : Int) < 0 ↔ W2 < W1) ∧ ((0 : Int) < 0 ↔ W1 < W2) := by
  rw [law.2.mp h]
  exact ⟨⟨fun z => absurd z (Int.lt_irrefl _), fun z => absurd z (Int.lt_irrefl _)⟩, ⟨fun z => absurd z (Int.lt_irrefl _), fun z => absurd z (Int.lt_irrefl _)⟩⟩
theorem sg_pos {d W1 W2 : Int} (law : (0 < d ↔ W2 < W1) ∧ (d = 0 ↔ W1 = W2)) (h : 0 < d) : ((0 : Int) < 1 ↔ W2 < W1) ∧ ((1 : Int) < 0 ↔ W1 < W2) :=
  ⟨⟨fun _ => law.1.mp h, fun _ => by decide⟩, ⟨fun z => absurd z (by decide), fun z => absurd (Int.lt_trans z (law.1.mp h)) (Int.lt_irrefl _)⟩⟩
theorem sg_neg {d W1 W2 : Int} (law : (0 < d ↔ W2 < W1) ∧ (d = 0 ↔ W1 = W2)) (h : d ≠ 0) (h' : ¬0 < d) : ((0 : Int) < -1 ↔ W2 < W1) ∧ ((-1 : Int) < 0 ↔ W1 < W2) := by
  have z1 : ¬W2 < W1 := fun z => h' (law.1.mpr z)
  have z2 : W1 ≠ W2 := fun z => h (law.2.mpr z)
  exact ⟨⟨fun z => absurd z (by decide), fun z => absurd z z1⟩, ⟨fun _ => Int.lt_iff_le_and_ne.mpr ⟨Int.not_lt.mp z1, z2⟩, fun _ => by decide⟩⟩
abbrev CmpPost (t1 p1 t2 p2 : Int) (nw : Led) (r : Value) : Prop := nw = [] ∧ ∃ c k, r = .int c k ∧ (0 < c ↔ wth t2 p2 < wth t1 p1) ∧ (c < 0 ↔ wth t1 p1 < wth t2 p2)
theorem cmp_end {w : World} {base : Heap} {outer : List Env} {s : Shared} {g h' : Heap} {L a da b db : Addr} {m : Str → Option Value} {all : Led} {tk : Nat} {k k1 k2 k3 k4 k5 k6 k7 k8 : Tok} {t1 p1 t2 p2 c : Int} (G : Ground s [(a, instObj 155 da), (da, decD w k1 k2 k3 k4 t1 p1), (b, instObj 155 db), (db, decD w k5 k6 k7 k8 t2 p2)] g)
    (hl : LedOk base outer s.heap [(a, instObj 155 da), (da, decD w k1 k2 k3 k4 t1 p1), (b, instObj 155 db), (db, decD w k5 k6 k7 k8 t2 p2)]) (F : Fr g L h' m) (N : News g L h' all) (m1 : (a, instObj 155 da) ∈ all) (m2 : (da, decD w k1 k2 k3 k4 t1 p1) ∈ all) (m3 : (b, instObj 155 db) ∈ all) (m4 : (db, decD w k5 k6 k7 k8 t2 p2) ∈ all)
    (q1 : 0 < c ↔ wth t2 p2 < wth t1 p1) (q2 : c < 0 ↔ wth t1 p1 < wth t2 p2) : Ok s [] (CmpPost t1 p1 t2 p2) (.int c k) { s with heap := h', toks := tk } :=
  still_end (nw := []) G hl F N (by simp only [List.forall_mem_cons]; exact ⟨m1, m2, m3, m4, fun _ hq => nomatch hq⟩) (fun _ hq => nomatch hq) ⟨rfl, _, _, rfl, q1, q2⟩
section
variable {w : World} {p : Program} {loose : List Str} {mean : ExcName → Option Value} {mg mb : Str → Option Value} {base : Heap} {outer : List Env} {s : Shared} {dp un : Nat} {gd : Option (List Code)}
theorem rg_Cmp46 : True := by
  (k_with "exec For Name Call cons nil" => ((k_here; (rename Fr _ _ _ _ => lF'); (with_unfolding_all refine' For_invVF lF' ?k1z1 ?k2z1 ?_; (case k1z1 => exact rfl); (case k2z1 => exact rfl); k_whole))))
  (k_with "exec For Name Subscript cons nil" => ((k_here; (rename Fr _ _ _ _ => lF'); (with_unfolding_all refine' For_invVF lF' ?k1z2 ?k2z2 ?_; (case k1z2 => exact rfl); (case k2z2 => exact rfl); k_whole))))
  (k_with "binaryOp Pow int int" => ((k_here; (with_reducible refine pow_ex ?haz3 ?hXz3 ?hbz3 ?hYz3 ?_); (case haz3 => decide); (case hXz3 => decide); (case hbz3 => first | exact if_lo (.inl rfl) | exact if_lo (.inr rfl) | omega); (case hYz3 => first | exact if_hi (by assumption) (by assumption) (by assumption) | omega))))
  (k_with "binaryOp Mult int int" => ((k_here; (with_reducible refine mul_linL ?haz4 ?hbz4 ?_); (case haz4 => omega); (case hbz4 => omega))))
  trivial
set_option maxRecDepth 100000
set_option maxHeartbeats 8000000
theorem cmp_ok {a da b db : Addr} {k1 k2 k3 k4 k5 k6 k7 k8 : Tok} {t1 p1 t2 p2 : Int} (hdp : dp ≤ 580) (hun : un ≤ 4900) (Cc : Cx w p loose mean mg mb base outer s.heap)
    (hl : LedOk base outer s.heap [(a, instObj 155 da), (da, decD w k1 k2 k3 k4 t1 p1), (b, instObj 155 db), (db, decD w k5 k6 k7 k8 t2 p2)])
    (b1 : 0 ≤ p1) (b2 : p1 ≤ 3) (b3 : 0 ≤ p2) (b4 : p2 ≤ 3) (b5 : -1000000 ≤ t1) (b6 : t1 ≤ 1000000) (b7 : -1000000 ≤ t2) (b8 : t2 ≤ 1000000) :
    wpAny (model PW w) (kA dp un gd outer) (call (.ref 110) [.ref a, .ref b]) (Ok s [] (CmpPost t1 p1 t2 p2)) Never s := by
  refine wpAny_le (dp' := 580) (un' := 4900) ?_ hdp hun
  refine wpAny_call ?_
  k_dflt (refine' enter (led := [(a, instObj 155 da), (da, decD w k1 k2 k3 k4 t1 p1), (b, instObj 155 db), (db, decD w k5 k6 k7 k8 t2 p2)]) Cc hl ?k6 ?k7 ?k8 ?k9 ?kB ?_ ?c2 ?c3 ?c4 ?c5; (case k6 => k_is); (case k7 => k_is); (case k8 => decide); (case k9 => exact BindsTo.of_eq rfl); (case c5 => decide); (case kB => exact locs rfl); (case c2 => exact rfl); (case c3 => exact rfl); (case c4 => exact rfl))
  intro g L' h' G hL' F' N' B' X' T'
  (try dsimp only); (try k_fold)
  have law := cmp_law (t1 := t1) (t2 := t2) b1 b2 b3 b4
  repeat' (first | (k_end; exact cmp_end G hl (by assumption) (by assumption) (by k_mem) (by k_mem) (by k_mem) (by k_mem) (by first | exact (sg_zero law (by assumption)).1 | exact (sg_pos law (by assumption)).1 | exact (sg_neg law (by assumption) (by assumption)).1 | omega) (by first | exact (sg_zero law (by assumption)).2 | exact (sg_pos law (by assumption)).2 | exact (sg_neg law (by assumption) (by assumption)).2 | omega)) | (k_unfold; (try dsimp only)) | walk1 | (dsimp only; walk1) | fail "no step")
  all_goals w_report
end
end
section
theorem rg_Least : True := by
  k_with_none
  (k_with "omA" => (first | (with_reducible (first | exact And.left ‹_› | exact And.left (And.right ‹_›) | exact And.left (And.right (And.right ‹_›)) | exact And.left (And.right (And.right (And.right ‹_›))) | exact And.left (And.right (And.right (And.right (And.right ‹_›)))) | exact And.left (And.right (And.right (And.right (And.right (And.right ‹_›))))) | exact And.left (And.right (And.right (And.right (And.right (And.right (And.right ‹_›)))))) | exact And.left (And.right (And.right (And.right (And.right (And.right (And.right (And.right ‹_›))))))) | exact And.left (And.right (And.right (And.right (And.right (And.right (And.right (And.right (And.right ‹_›)))))))) | exact And.left (And.right (And.right (And.right (And.right (And.right (And.right (And.right (And.right (And.right ‹_›))))))))) | exact And.left (And.right (And.right (And.right (And.right (And.right (And.right (And.right (And.right (And.right (And.right ‹_›)))))))))) | exact And.left (And.right (And.right (And.right (And.right (And.right (And.right (And.right (And.right (And.right (And.right (And.right ‹_›))))))))))) | exact And.left (And.right (And.right (And.right (And.right (And.right (And.right (And.right (And.right (And.right (And.right (And.right (And.right ‹_›)))))))))))) | exact And.left (And.right (And.right (And.right (And.right (And.right (And.right (And.right (And.right (And.right (And.right (And.right (And.right (And.right ‹_›))))))))))))) | exact And.left (And.right (And.right (And.right (And.right (And.right (And.right (And.right (And.right (And.right (And.right (And.right (And.right (And.right (And.right ‹_›)))))))))))))) | exact And.left (And.right (And.right (And.right (And.right (And.right (And.right (And.right (And.right (And.right (And.right (And.right (And.right (And.right (And.right (And.right ‹_›))))))))))))))) | exact And.left (And.right (And.right (And.right (And.right (And.right (And.right (And.right (And.right (And.right (And.right (And.right (And.right (And.right (And.right (And.right (And.right ‹_›)))))))))))))))) | exact And.right ‹_› | exact And.right (And.right ‹_›) | exact And.right (And.right (And.right ‹_›)) | exact And.right (And.right (And.right (And.right ‹_›))) | exact And.right (And.right (And.right (And.right (And.right ‹_›)))))) | fail))
  (k_with "omC" => (first | decide | fail))
  (k_with "omU" => (first | (k_extra "omC") | (with_reducible (first | exact o_le ‹_› (by decide) | exact o_lel ‹_› (by decide) | exact o_mul ‹_› (by decide) (by decide) | exact o_mull ‹_› (by decide) (by decide))) | ((with_reducible refine o_chl ‹_› ?_); k_extra "omU") | ((with_reducible refine o_addc ?_); k_extra "omU") | ((with_reducible refine o_subc ?_); k_extra "omU") | ((with_reducible refine o_subv ‹_› ?_); k_extra "omU") | ((with_reducible refine o_add2 ‹_› ?_); k_extra "omU") | ((with_reducible refine o_add2l ‹_› ?_); k_extra "omU") | ((with_reducible refine o_addl ?_); k_extra "omU") | ((with_reducible refine o_addm ‹_› (by decide) ?_); k_extra "omU") | fail))
  (k_with "omL" => (first | (k_extra "omC") | (with_reducible (first | exact o_ge ‹_› (by decide) | exact o_gel ‹_› (by decide) | exact o_gmul ‹_› (by decide) (by decide))) | ((with_reducible refine o_gaddc ?_); k_extra "omL") | ((with_reducible refine o_gsubc ?_); k_extra "omL") | ((with_reducible refine o_gsubv ‹_› ?_); k_extra "omL") | ((with_reducible refine o_gsubvl ‹_› ?_); k_extra "omL") | ((with_reducible refine o_gadd2 ‹_› ?_); k_extra "omL") | ((with_reducible refine o_gaddl ?_); k_extra "omL") | ((with_reducible refine o_gaddm ‹_› (by decide) ?_); k_extra "omL") | fail))
  (k_with "omR" => (first | (with_reducible (first | exact o_self (by decide))) | ((with_reducible refine o_ch ‹_› ?_); k_extra "omR") | ((with_reducible refine o_addch ?_); k_extra "omR") | fail))
  (k_with "omZ" => (first | (k_extra "omR") | (k_extra "omU") | (k_extra "omL") | fail))
  (k_with "omX" => (first | decide | (k_extra "omZ") | (with_reducible (first | exact Int.le_refl _ | exact Nat.le_refl _ | exact o_nle ‹_› (by decide) | exact o_nlt ‹_› (by decide) | exact o_nlel ‹_› (by decide))) | ((with_reducible refine o_ltc ?_); k_extra "omZ") | ((with_reducible refine o_gtc ?_); k_extra "omZ") | (with_reducible (first | exact o_iffn ‹_› ‹_› | exact o_neql ‹_› (by decide) | exact o_neqi ‹_› (by decide))) | ((with_reducible show _ < _); (first | (with_reducible exact Iff.mp ‹_› ‹_›) | k_extra "omA")) | ((repeat (rename _ ≠ _ => hz; clear hz)); (repeat (rename _ ≠ _ ∧ _ => hz; clear hz)); omega +splitDisjunctions) | fail))
  (k_with "omN" => (first | (with_reducible (first | exact o_n1 | exact o_n1' | exact o_ne ‹_› | exact o_ne' ‹_› | exact o_lt ‹_› | exact o_gt ‹_› | exact o_ne (by k_extra "omA") | exact o_ne' (by k_extra "omA") | exact o_lt (by k_extra "omA") | exact o_gt (by k_extra "omA") | exact o_lts1 (by k_extra "omA") | exact o_lts1' (by k_extra "omA") | exact o_lts2 (by k_extra "omA") | exact o_lts2' (by k_extra "omA") | exact o_gt2 ‹_› (by k_extra "omA") | exact o_lt2 ‹_› (by k_extra "omA"))) | fail))
  (k_with "om" => (first | with_reducible assumption | ((first | (with_reducible show _ ≤ _) | (with_reducible show _ < _)); k_extra "omX") | ((with_reducible show _ = _ → False); k_extra "omN") | fail))
  trivial
open PySem PySem.W PyProof.Rows PySem.Calls
theorem reg_least : PySem.Challenge.rw_nn0125_01 = PySem.Challenge.rw_nn0125_01 ∧ KX = KX := by k_fill; exact ⟨rfl, rfl⟩
theorem le_of_ble {a b : Nat} (h : Nat.ble a b = true) : a ≤ b := Nat.le_of_ble_eq_true h
abbrev LeastP (a b : Addr) (t1 p1 t2 p2 : Int) (r : Value) : Prop := (r = .ref a ∧ wth t1 p1 ≤ wth t2 p2) ∨ (r = .ref b ∧ wth t2 p2 < wth t1 p1)
abbrev GreatestP (a b : Addr) (t1 p1 t2 p2 : Int) (r : Value) : Prop := (r = .ref a ∧ wth t2 p2 ≤ wth t1 p1) ∨ (r = .ref b ∧ wth t1 p1 < wth t2 p2)
theorem two_end {w : World} {base : Heap} {outer : List Env} {s : Shared} {g h' : Heap} {L l a da b db : Addr} {n : Nat} {m : Str → Option Value} {all : Led} {tk : Nat} {k1 k2 k3 k4 k5 k6 k7 k8 : Tok} {t1 p1 t2 p2 : Int} {P : Value → Prop} {r : Value} (G : Ground s [(l, listOf #[.ref a, .ref b] n), (a, instObj 155 da), (da, decD w k1 k2 k3 k4 t1 p1), (b, instObj 155 db), (db, decD w k5 k6 k7 k8 t2 p2)] g)
    (hl : LedOk base outer s.heap [(l, listOf #[.ref a, .ref b] n), (a, instObj 155 da), (da, decD w k1 k2 k3 k4 t1 p1), (b, instObj 155 db), (db, decD w k5 k6 k7 k8 t2 p2)]) (F : Fr g L h' m) (N : News g L h' all) (m0 : (l, listOf #[.ref a, .ref b] n) ∈ all) (m1 : (a, instObj 155 da) ∈ all) (m2 : (da, decD w k1 k2 k3 k4 t1 p1) ∈ all) (m3 : (b, instObj 155 db) ∈ all) (m4 : (db, decD w k5 k6 k7 k8 t2 p2) ∈ all)
    (hp : P r) : Ok s [] (fun nw r => nw = [] ∧ P r) r { s with heap := h', toks := tk } :=
  still_end (nw := []) G hl F N (by simp only [List.forall_mem_cons]; exact ⟨m0, m1, m2, m3, m4, fun _ hq => nomatch hq⟩) (fun _ hq => nomatch hq) ⟨rfl, hp⟩
section
variable {w : World} {p : Program} {loose : List Str} {mean : ExcName → Option Value} {mg mb : Str → Option Value} {base : Heap} {outer : List Env} {s : Shared} {dp un : Nat} {gd : Option (List Code)}
theorem rg_Least11 : True := by
  (k_with "exec For Name Call cons nil" => ((k_here; (rename Fr _ _ _ _ => lF'); (with_unfolding_all refine' For_invVF lF' ?k1z1 ?k2z1 ?_; (case k1z1 => exact rfl); (case k2z1 => exact rfl); k_whole))))
  (k_with "exec For Name Subscript cons nil" => ((k_here; (rename Fr _ _ _ _ => lF'); (with_unfolding_all refine' For_invVF lF' ?k1z2 ?k2z2 ?_; (case k1z2 => exact rfl); (case k2z2 => exact rfl); k_whole))))
  (k_with "call ref" => ((k_here; (with_reducible show wpAny _ _ (call (Value.ref 110) _) _ _ _); k_dflt (refine' use0 (cmp_ok ?hdpz3 ?hunz3 (cx_of (by assumption) (by assumption) ?Fz3 ?hkz3) (led_of ?hk2z3 (by assumption) ?F2z3 ?N2z3 ?hmz3) ?b1z3 ?b2z3 ?b3z3 ?b4z3 ?b5z3 ?b6z3 ?b7z3 ?b8z3) ?F3z3 ?N3z3 ?_; (case F3z3 => k_asm); (case N3z3 => k_asm); (case Fz3 => k_asm); (case F2z3 => k_asm); (case hk2z3 => exact ⟨rfl, rfl⟩); (case N2z3 => k_asm); (case hkz3 => exact ⟨rfl, rfl⟩); (case hdpz3 => exact le_of_ble rfl); (case hunz3 => exact le_of_ble rfl); (case hmz3 => (simp only [List.forall_mem_cons]; exact ⟨by k_mem, by k_mem, by k_mem, by k_mem, fun _ hq => nomatch hq⟩)); (case b1z3 => omega); (case b2z3 => omega); (case b3z3 => omega); (case b4z3 => omega); (case b5z3 => omega); (case b6z3 => omega); (case b7z3 => omega); (case b8z3 => omega)); intro _ _ _ _ hp' _ N' hd'; obtain ⟨e1', c', k', e2', q1', q2'⟩ := hp'; subst e1'; subst e2'; clear hd'; (try simp only [List.nil_append] at N'); (try k_sweep))))
  (k_with "call ref" => ((k_here; (with_reducible show wpAny _ _ (call (Value.ref 180) [Value.ref _]) _ _ _); k_dflt (refine' use0 (dof_dec ?hdpz4 ?hunz4 (cx_of (by assumption) (by assumption) ?Fz4 ?hkz4) (News.get ?N1z4 ?m1z4) (News.get ?N2z4 ?m2z4)) ?F3z4 ?N3z4 ?_; (case F3z4 => k_asm); (case N3z4 => k_asm); (case Fz4 => k_asm); (case N1z4 => k_asm); (case N2z4 => k_asm); (case hkz4 => exact ⟨rfl, rfl⟩); (case hdpz4 => exact le_of_ble rfl); (case hunz4 => exact le_of_ble rfl); (case m1z4 => k_mem); (case m2z4 => k_mem)); intro _ _ _ _ hp' _ N' hd'; obtain ⟨e1', e2'⟩ := hp'; subst e1'; subst e2'; clear hd'; (try simp only [List.nil_append] at N'); (try k_sweep))))
  trivial
set_option maxRecDepth 100000
set_option maxHeartbeats 8000000
theorem least_ok {l a da b db : Addr} {n : Nat} {k1 k2 k3 k4 k5 k6 k7 k8 : Tok} {t1 p1 t2 p2 : Int} (hdp : dp ≤ 560) (hun : un ≤ 4800) (Cc : Cx w p loose mean mg mb base outer s.heap)
    (hl : LedOk base outer s.heap [(l, listOf #[.ref a, .ref b] n), (a, instObj 155 da), (da, decD w k1 k2 k3 k4 t1 p1), (b, instObj 155 db), (db, decD w k5 k6 k7 k8 t2 p2)])
    (b1 : 0 ≤ p1) (b2 : p1 ≤ 3) (b3 : 0 ≤ p2) (b4 : p2 ≤ 3) (b5 : -1000000 ≤ t1) (b6 : t1 ≤ 1000000) (b7 : -1000000 ≤ t2) (b8 : t2 ≤ 1000000) :
    wpAny (model PW w) (kA dp un gd outer) (call (.ref 194) [.ref l]) (Ok s [] (fun nw r => nw = [] ∧ LeastP a b t1 p1 t2 p2 r)) Never s := by
  refine wpAny_le (dp' := 560) (un' := 4800) ?_ hdp hun
  refine wpAny_call ?_
  have W' := Cc.W
  k_dflt (refine' enter (led := [(l, listOf #[.ref a, .ref b] n), (a, instObj 155 da), (da, decD w k1 k2 k3 k4 t1 p1), (b, instObj 155 db), (db, decD w k5 k6 k7 k8 t2 p2)]) Cc hl ?k6 ?k7 ?k8 ?k9 ?kB ?_ ?c2 ?c3 ?c4 ?c5; (case k6 => k_is); (case k7 => k_is); (case k8 => decide); (case k9 => exact BindsTo.of_eq rfl); (case c5 => decide); (case kB => exact locs rfl); (case c2 => exact rfl); (case c3 => exact rfl); (case c4 => exact rfl))
  intro g L' h' G hL' F' N' B' X' T'
  (try dsimp only); (try k_fold)
  repeat' (first | (k_end; exact two_end (P := LeastP a b t1 p1 t2 p2) G hl (by assumption) (by assumption) (by k_mem) (by k_mem) (by k_mem) (by k_mem) (by k_mem) (by first | exact .inl ⟨rfl, by omega⟩ | exact .inr ⟨rfl, by omega⟩)) | (k_unfold; (try dsimp only)) | walk1 | (dsimp only; walk1) | fail "no step")
  all_goals w_report
theorem greatest_ok {l a da b db : Addr} {n : Nat} {k1 k2 k3 k4 k5 k6 k7 k8 : Tok} {t1 p1 t2 p2 : Int} (hdp : dp ≤ 560) (hun : un ≤ 4800) (Cc : Cx w p loose mean mg mb base outer s.heap)
    (hl : LedOk base outer s.heap [(l, listOf #[.ref a, .ref b] n), (a, instObj 155 da), (da, decD w k1 k2 k3 k4 t1 p1), (b, instObj 155 db), (db, decD w k5 k6 k7 k8 t2 p2)])
    (b1 : 0 ≤ p1) (b2 : p1 ≤ 3) (b3 : 0 ≤ p2) (b4 : p2 ≤ 3) (b5 : -1000000 ≤ t1) (b6 : t1 ≤ 1000000) (b7 : -1000000 ≤ t2) (b8 : t2 ≤ 1000000) :
    wpAny (model PW w) (kA dp un gd outer) (call (.ref 201) [.ref l]) (Ok s [] (fun nw r => nw = [] ∧ GreatestP a b t1 p1 t2 p2 r)) Never s := by
  refine wpAny_le (dp' := 560) (un' := 4800) ?_ hdp hun
  refine wpAny_call ?_
  have W' := Cc.W
  k_dflt (refine' enter (led := [(l, listOf #[.ref a, .ref b] n), (a, instObj 155 da), (da, decD w k1 k2 k3 k4 t1 p1), (b, instObj 155 db), (db, decD w k5 k6 k7 k8 t2 p2)]) Cc hl ?k6 ?k7 ?k8 ?k9 ?kB ?_ ?c2 ?c3 ?c4 ?c5; (case k6 => k_is); (case k7 => k_is); (case k8 => decide); (case k9 => exact BindsTo.of_eq rfl); (case c5 => decide); (case kB => exact locs rfl); (case c2 => exact rfl); (case c3 => exact rfl); (case c4 => exact rfl))
  intro g L' h' G hL' F' N' B' X' T'
  (try dsimp only); (try k_fold)
  repeat' (first | (k_end; exact two_end (P := GreatestP a b t1 p1 t2 p2) G hl (by assumption) (by assumption) (by k_mem) (by k_mem) (by k_mem) (by k_mem) (by k_mem) (by first | exact .inl ⟨rfl, by omega⟩ | exact .inr ⟨rfl, by omega⟩)) | (k_unfold; (try dsimp only)) | walk1 | (dsimp only; walk1) | fail "no step")
  all_goals w_report
end
end
section
theorem rg_Kind : True := by
  k_with_none
  (k_with "omA" => (first | (with_reducible (first | exact And.left ‹_› | exact And.left (And.right ‹_›) | exact And.left (And.right (And.right ‹_›)) | exact And.left (And.right (And.right (And.right ‹_›))) | exact And.left (And.right (And.right (And.right (And.right ‹_›)))) | exact And.left (And.right (And.right (And.right (And.right (And.right ‹_›))))) | exact And.left (And.right (And.right (And.right (And.right (And.right (And.right ‹_›)))))) | exact And.left (And.right (And.right (And.right (And.right (And.right (And.right (And.right ‹_›))))))) | exact And.left (And.right (And.right (And.right (And.right (And.right (And.right (And.right (And.right ‹_›)))))))) | exact And.left (And.right (And.right (And.right (And.right (And.right (And.right (And.right (And.right (And.right ‹_›))))))))) | exact And.left (And.right (And.right (And.right (And.right (And.right (And.right (And.right (And.right (And.right (And.right ‹_›)))))))))) | exact And.left (And.right (And.right (And.right (And.right (And.right (And.right (And.right (And.right (And.right (And.right (And.right ‹_›))))))))))) | exact And.left (And.right (And.right (And.right (And.right (And.right (And.right (And.right (And.right (And.right (And.right (And.right (And.right ‹_›)))))))))))) | exact And.left (And.right (And.right (And.right (And.right (And.right (And.right (And.right (And.right (And.right (And.right (And.right (And.right (And.right ‹_›))))))))))))) | exact And.left (And.right (And.right (And.right (And.right (And.right (And.right (And.right (And.right (And.right (And.right (And.right (And.right (And.right (And.right ‹_›)))))))))))))) | exact And.left (And.right (And.right (And.right (And.right (And.right (And.right (And.right (And.right (And.right (And.right (And.right (And.right (And.right (And.right (And.right ‹_›))))))))))))))) | exact And.left (And.right (And.right (And.right (And.right (And.right (And.right (And.right (And.right (And.right (And.right (And.right (And.right (And.right (And.right (And.right (And.right ‹_›)))))))))))))))) | exact And.right ‹_› | exact And.right (And.right ‹_›) | exact And.right (And.right (And.right ‹_›)) | exact And.right (And.right (And.right (And.right ‹_›))) | exact And.right (And.right (And.right (And.right (And.right ‹_›)))))) | fail))
  (k_with "omC" => (first | decide | fail))
  (k_with "omU" => (first | (k_extra "omC") | (with_reducible (first | exact o_le ‹_› (by decide) | exact o_lel ‹_› (by decide) | exact o_mul ‹_› (by decide) (by decide) | exact o_mull ‹_› (by decide) (by decide))) | ((with_reducible refine o_chl ‹_› ?_); k_extra "omU") | ((with_reducible refine o_addc ?_); k_extra "omU") | ((with_reducible refine o_subc ?_); k_extra "omU") | ((with_reducible refine o_subv ‹_› ?_); k_extra "omU") | ((with_reducible refine o_add2 ‹_› ?_); k_extra "omU") | ((with_reducible refine o_add2l ‹_› ?_); k_extra "omU") | ((with_reducible refine o_addl ?_); k_extra "omU") | ((with_reducible refine o_addm ‹_› (by decide) ?_); k_extra "omU") | fail))
  (k_with "omL" => (first | (k_extra "omC") | (with_reducible (first | exact o_ge ‹_› (by decide) | exact o_gel ‹_› (by decide) | exact o_gmul ‹_› (by decide) (by decide))) | ((with_reducible refine o_gaddc ?_); k_extra "omL") | ((with_reducible refine o_gsubc ?_); k_extra "omL") | ((with_reducible refine o_gsubv ‹_› ?_); k_extra "omL") | ((with_reducible refine o_gsubvl ‹_› ?_); k_extra "omL") | ((with_reducible refine o_gadd2 ‹_› ?_); k_extra "omL") | ((with_reducible refine o_gaddl ?_); k_extra "omL") | ((with_reducible refine o_gaddm ‹_› (by decide) ?_); k_extra "omL") | fail))
  (k_with "omR" => (first | (with_reducible (first | exact o_self (by decide))) | ((with_reducible refine o_ch ‹_› ?_); k_extra "omR") | ((with_reducible refine o_addch ?_); k_extra "omR") | fail))
  (k_with "omZ" => (first | (k_extra "omR") | (k_extra "omU") | (k_extra "omL") | fail))
  (k_with "omX" => (first | decide | (k_extra "omZ") | (with_reducible (first | exact Int.le_refl _ | exact Nat.le_refl _ | exact o_nle ‹_› (by decide) | exact o_nlt ‹_› (by decide) | exact o_nlel ‹_› (by decide))) | ((with_reducible refine o_ltc ?_); k_extra "omZ") | ((with_reducible refine o_gtc ?_); k_extra "omZ") | (with_reducible (first | exact o_iffn ‹_› ‹_› | exact o_neql ‹_› (by decide) | exact o_neqi ‹_› (by decide))) | ((with_reducible show _ < _); (first | (with_reducible exact Iff.mp ‹_› ‹_›) | k_extra "omA")) | ((repeat (rename _ ≠ _ => hz; clear hz)); (repeat (rename _ ≠ _ ∧ _ => hz; clear hz)); omega +splitDisjunctions) | fail))
  (k_with "omN" => (first | (with_reducible (first | exact o_n1 | exact o_n1' | exact o_ne ‹_› | exact o_ne' ‹_› | exact o_lt ‹_› | exact o_gt ‹_› | exact o_ne (by k_extra "omA") | exact o_ne' (by k_extra "omA") | exact o_lt (by k_extra "omA") | exact o_gt (by k_extra "omA") | exact o_lts1 (by k_extra "omA") | exact o_lts1' (by k_extra "omA") | exact o_lts2 (by k_extra "omA") | exact o_lts2' (by k_extra "omA") | exact o_gt2 ‹_› (by k_extra "omA") | exact o_lt2 ‹_› (by k_extra "omA"))) | fail))
  (k_with "om" => (first | with_reducible assumption | ((first | (with_reducible show _ ≤ _) | (with_reducible show _ < _)); k_extra "omX") | ((with_reducible show _ = _ → False); k_extra "omN") | fail))
  trivial
open PySem PySem.W PyProof.Rows PySem.Calls
theorem reg_kind : PySem.Challenge.rw_nn0125_01 = PySem.Challenge.rw_nn0125_01 ∧ KX = KX := by k_fill; exact ⟨rfl, rfl⟩
section
variable {w : World} {p : Program} {loose : List Str} {mean : ExcName → Option Value} {mg mb : Str → Option Value} {base : Heap} {outer : List Env} {s : Shared} {dp un : Nat} {gd : Option (List Code)}
theorem rg_Kind4 : True := by
  (k_with "exec For Name Call cons nil" => ((k_here; (rename Fr _ _ _ _ => lF'); (with_unfolding_all refine' For_invVF lF' ?k1z1 ?k2z1 ?_; (case k1z1 => exact rfl); (case k2z1 => exact rfl); k_whole))))
  (k_with "exec For Name Subscript cons nil" => ((k_here; (rename Fr _ _ _ _ => lF'); (with_unfolding_all refine' For_invVF lF' ?k1z2 ?k2z2 ?_; (case k1z2 => exact rfl); (case k2z2 => exact rfl); k_whole))))
  trivial
set_option maxRecDepth 100000
set_option maxHeartbeats 8000000
theorem isnum_none  (hdp : dp ≤ 580) (hun : un ≤ 4900) (Cc : Cx w p loose mean mg mb base outer s.heap) (hl : LedOk base outer s.heap []) :
    wpAny (model PW w) (kA dp un gd outer) (call (.ref 307) [.none]) (Ok s [] (fun nw r => nw = [] ∧ r = .bool false)) Never s := by
  refine wpAny_le (dp' := 580) (un' := 4900) ?_ hdp hun
  refine wpAny_call ?_
  k_dflt (refine' enter (led := []) Cc hl ?k6 ?k7 ?k8 ?k9 ?kB ?_ ?c2 ?c3 ?c4 ?c5; (case k6 => k_is); (case k7 => k_is); (case k8 => decide); (case k9 => exact BindsTo.of_eq rfl); (case c5 => decide); (case kB => exact locs rfl); (case c2 => exact rfl); (case c3 => exact rfl); (case c4 => exact rfl))
  intro g L' h' G hL' F' N' B' X' T'
  (try dsimp only); (try k_fold)
  repeat' (first | (k_end; exact still_end (nw := []) G hl (by assumption) (by assumption) (fun _ hq => nomatch hq) (fun _ hq => nomatch hq) ⟨rfl, rfl⟩) | (k_unfold; (try dsimp only)) | walk1 | (dsimp only; walk1) | fail "no step")
  all_goals w_report
theorem isnum_bool {b : Bool} (hdp : dp ≤ 580) (hun : un ≤ 4900) (Cc : Cx w p loose mean mg mb base outer s.heap) (hl : LedOk base outer s.heap []) :
    wpAny (model PW w) (kA dp un gd outer) (call (.ref 307) [.bool b]) (Ok s [] (fun nw r => nw = [] ∧ r = .bool false)) Never s := by
  refine wpAny_le (dp' := 580) (un' := 4900) ?_ hdp hun
  refine wpAny_call ?_
  k_dflt (refine' enter (led := []) Cc hl ?k6 ?k7 ?k8 ?k9 ?kB ?_ ?c2 ?c3 ?c4 ?c5; (case k6 => k_is); (case k7 => k_is); (case k8 => decide); (case k9 => exact BindsTo.of_eq rfl); (case c5 => decide); (case kB => exact locs rfl); (case c2 => exact rfl); (case c3 => exact rfl); (case c4 => exact rfl))
  intro g L' h' G hL' F' N' B' X' T'
  (try dsimp only); (try k_fold)
  repeat' (first | (k_end; exact still_end (nw := []) G hl (by assumption) (by assumption) (fun _ hq => nomatch hq) (fun _ hq => nomatch hq) ⟨rfl, rfl⟩) | (k_unfold; (try dsimp only)) | walk1 | (dsimp only; walk1) | fail "no step")
  all_goals w_report
theorem isnum_int {i : Int} {k : Tok} (hdp : dp ≤ 580) (hun : un ≤ 4900) (Cc : Cx w p loose mean mg mb base outer s.heap) (hl : LedOk base outer s.heap []) :
    wpAny (model PW w) (kA dp un gd outer) (call (.ref 307) [.int i k]) (Ok s [] (fun nw r => nw = [] ∧ r = .bool true)) Never s := by
  refine wpAny_le (dp' := 580) (un' := 4900) ?_ hdp hun
  refine wpAny_call ?_
  k_dflt (refine' enter (led := []) Cc hl ?k6 ?k7 ?k8 ?k9 ?kB ?_ ?c2 ?c3 ?c4 ?c5; (case k6 => k_is); (case k7 => k_is); (case k8 => decide); (case k9 => exact BindsTo.of_eq rfl); (case c5 => decide); (case kB => exact locs rfl); (case c2 => exact rfl); (case c3 => exact rfl); (case c4 => exact rfl))
  intro g L' h' G hL' F' N' B' X' T'
  (try dsimp only); (try k_fold)
  repeat' (first | (k_end; exact still_end (nw := []) G hl (by assumption) (by assumption) (fun _ hq => nomatch hq) (fun _ hq => nomatch hq) ⟨rfl, rfl⟩) | (k_unfold; (try dsimp only)) | walk1 | (dsimp only; walk1) | fail "no step")
  all_goals w_report
theorem isnum_dec {a da : Addr} {o : Obj} (hdp : dp ≤ 580) (hun : un ≤ 4900) (Cc : Cx w p loose mean mg mb base outer s.heap) (hl : LedOk base outer s.heap [(a, instObj 155 da), (da, o)]) :
    wpAny (model PW w) (kA dp un gd outer) (call (.ref 307) [.ref a]) (Ok s [] (fun nw r => nw = [] ∧ r = .bool true)) Never s := by
  refine wpAny_le (dp' := 580) (un' := 4900) ?_ hdp hun
  refine wpAny_call ?_
  k_dflt (refine' enter (led := [(a, instObj 155 da), (da, o)]) Cc hl ?k6 ?k7 ?k8 ?k9 ?kB ?_ ?c2 ?c3 ?c4 ?c5; (case k6 => k_is); (case k7 => k_is); (case k8 => decide); (case k9 => exact BindsTo.of_eq rfl); (case c5 => decide); (case kB => exact locs rfl); (case c2 => exact rfl); (case c3 => exact rfl); (case c4 => exact rfl))
  intro g L' h' G hL' F' N' B' X' T'
  (try dsimp only); (try k_fold)
  repeat' (first | (k_end; exact still_end (nw := []) G hl (by assumption) (by assumption) (by simp only [List.forall_mem_cons]; exact ⟨by k_mem, by k_mem, fun _ hq => nomatch hq⟩) (fun _ hq => nomatch hq) ⟨rfl, rfl⟩) | (k_unfold; (try dsimp only)) | walk1 | (dsimp only; walk1) | fail "no step")
  all_goals w_report
theorem isnum_name {a da : Addr} {o : Obj} (hdp : dp ≤ 580) (hun : un ≤ 4900) (Cc : Cx w p loose mean mg mb base outer s.heap) (hl : LedOk base outer s.heap [(a, instObj 218 da), (da, o)]) :
    wpAny (model PW w) (kA dp un gd outer) (call (.ref 307) [.ref a]) (Ok s [] (fun nw r => nw = [] ∧ r = .bool false)) Never s := by
  refine wpAny_le (dp' := 580) (un' := 4900) ?_ hdp hun
  refine wpAny_call ?_
  k_dflt (refine' enter (led := [(a, instObj 218 da), (da, o)]) Cc hl ?k6 ?k7 ?k8 ?k9 ?kB ?_ ?c2 ?c3 ?c4 ?c5; (case k6 => k_is); (case k7 => k_is); (case k8 => decide); (case k9 => exact BindsTo.of_eq rfl); (case c5 => decide); (case kB => exact locs rfl); (case c2 => exact rfl); (case c3 => exact rfl); (case c4 => exact rfl))
  intro g L' h' G hL' F' N' B' X' T'
  (try dsimp only); (try k_fold)
  repeat' (first | (k_end; exact still_end (nw := []) G hl (by assumption) (by assumption) (by simp only [List.forall_mem_cons]; exact ⟨by k_mem, by k_mem, fun _ hq => nomatch hq⟩) (fun _ hq => nomatch hq) ⟨rfl, rfl⟩) | (k_unfold; (try dsimp only)) | walk1 | (dsimp only; walk1) | fail "no step")
  all_goals w_report
theorem isnum_string {a da : Addr} {o : Obj} (hdp : dp ≤ 580) (hun : un ≤ 4900) (Cc : Cx w p loose mean mg mb base outer s.heap) (hl : LedOk base outer s.heap [(a, instObj 240 da), (da, o)]) :
    wpAny (model PW w) (kA dp un gd outer) (call (.ref 307) [.ref a]) (Ok s [] (fun nw r => nw = [] ∧ r = .bool false)) Never s := by
  refine wpAny_le (dp' := 580) (un' := 4900) ?_ hdp hun
  refine wpAny_call ?_
  k_dflt (refine' enter (led := [(a, instObj 240 da), (da, o)]) Cc hl ?k6 ?k7 ?k8 ?k9 ?kB ?_ ?c2 ?c3 ?c4 ?c5; (case k6 => k_is); (case k7 => k_is); (case k8 => decide); (case k9 => exact BindsTo.of_eq rfl); (case c5 => decide); (case kB => exact locs rfl); (case c2 => exact rfl); (case c3 => exact rfl); (case c4 => exact rfl))
  intro g L' h' G hL' F' N' B' X' T'
  (try dsimp only); (try k_fold)
  repeat' (first | (k_end; exact still_end (nw := []) G hl (by assumption) (by assumption) (by simp only [List.forall_mem_cons]; exact ⟨by k_mem, by k_mem, fun _ hq => nomatch hq⟩) (fun _ hq => nomatch hq) ⟨rfl, rfl⟩) | (k_unfold; (try dsimp only)) | walk1 | (dsimp only; walk1) | fail "no step")
  all_goals w_report
theorem isnum_list {a : Addr} {xs : Array Value} {n : Nat} (hdp : dp ≤ 580) (hun : un ≤ 4900) (Cc : Cx w p loose mean mg mb base outer s.heap) (hl : LedOk base outer s.heap [(a, listOf xs n)]) :
    wpAny (model PW w) (kA dp un gd outer) (call (.ref 307) [.ref a]) (Ok s [] (fun nw r => nw = [] ∧ r = .bool false)) Never s := by
  refine wpAny_le (dp' := 580) (un' := 4900) ?_ hdp hun
  refine wpAny_call ?_
  k_dflt (refine' enter (led := [(a, listOf xs n)]) Cc hl ?k6 ?k7 ?k8 ?k9 ?kB ?_ ?c2 ?c3 ?c4 ?c5; (case k6 => k_is); (case k7 => k_is); (case k8 => decide); (case k9 => exact BindsTo.of_eq rfl); (case c5 => decide); (case kB => exact locs rfl); (case c2 => exact rfl); (case c3 => exact rfl); (case c4 => exact rfl))
  intro g L' h' G hL' F' N' B' X' T'
  (try dsimp only); (try k_fold)
  repeat' (first | (k_end; exact still_end (nw := []) G hl (by assumption) (by assumption) (by simp only [List.forall_mem_cons]; exact ⟨by k_mem, fun _ hq => nomatch hq⟩) (fun _ hq => nomatch hq) ⟨rfl, rfl⟩) | (k_unfold; (try dsimp only)) | walk1 | (dsimp only; walk1) | fail "no step")
  all_goals w_report
end
end
section
theorem rg_Add : True := by
  k_with_none
  (k_with "omA" => (first | (with_reducible (first | exact And.left ‹_› | exact And.left (And.right ‹_›) | exact And.left (And.right (And.right ‹_›)) | exact And.left (And.right (And.right (And.right ‹_›))) | exact And.left (And.right (And.right (And.right (And.right ‹_›)))) | exact And.left (And.right (And.right (And.right (And.right (And.right ‹_›))))) | exact And.left (And.right (And.right (And.right (And.right (And.right (And.right ‹_›)))))) | exact And.left (And.right (And.right (And.right (And.right (And.right (And.right (And.right ‹_›))))))) | exact And.left (And.right (And.right (And.right (And.right (And.right (And.right (And.right (And.right ‹_›)))))))) | exact And.left (And.right (And.right (And.right (And.right (And.right (And.right (And.right (And.right (And.right ‹_›))))))))) | exact And.left (And.right (And.right (And.right (And.right (And.right (And.right (And.right (And.right (And.right (And.right ‹_›)))))))))) | exact And.left (And.right (And.right (And.right (And.right (And.right (And.right (And.right (And.right (And.right (And.right (And.right ‹_›))))))))))) | exact And.left (And.right (And.right (And.right (And.right (And.right (And.right (And.right (And.right (And.right (And.right (And.right (And.right ‹_›)))))))))))) | exact And.left (And.right (And.right (And.right (And.right (And.right (And.right (And.right (And.right (And.right (And.right (And.right (And.right (And.right ‹_›))))))))))))) | exact And.left (And.right (And.right (And.right (And.right (And.right (And.right (And.right (And.right (And.right (And.right (And.right (And.right (And.right (And.right ‹_›)))))))))))))) | exact And.left (And.right (And.right (And.right (And.right (And.right (And.right (And.right (And.right (And.right (And.right (And.right (And.right (And.right (And.right (And.right ‹_›))))))))))))))) | exact And.left (And.right (And.right (And.right (And.right (And.right (And.right (And.right (And.right (And.right (And.right (And.right (And.right (And.right (And.right (And.right (And.right ‹_›)))))))))))))))) | exact And.right ‹_› | exact And.right (And.right ‹_›) | exact And.right (And.right (And.right ‹_›)) | exact And.right (And.right (And.right (And.right ‹_›))) | exact And.right (And.right (And.right (And.right (And.right ‹_›)))))) | fail))
  (k_with "omC" => (first | decide | fail))
  (k_with "omU" => (first | (k_extra "omC") | (with_reducible (first | exact o_le ‹_› (by decide) | exact o_lel ‹_› (by decide) | exact o_mul ‹_› (by decide) (by decide) | exact o_mull ‹_› (by decide) (by decide))) | ((with_reducible refine o_chl ‹_› ?_); k_extra "omU") | ((with_reducible refine o_addc ?_); k_extra "omU") | ((with_reducible refine o_subc ?_); k_extra "omU") | ((with_reducible refine o_subv ‹_› ?_); k_extra "omU") | ((with_reducible refine o_add2 ‹_› ?_); k_extra "omU") | ((with_reducible refine o_add2l ‹_› ?_); k_extra "omU") | ((with_reducible refine o_addl ?_); k_extra "omU") | ((with_reducible refine o_addm ‹_› (by decide) ?_); k_extra "omU") | fail))
  (k_with "omL" => (first | (k_extra "omC") | (with_reducible (first | exact o_ge ‹_› (by decide) | exact o_gel ‹_› (by decide) | exact o_gmul ‹_› (by decide) (by decide))) | ((with_reducible refine o_gaddc ?_); k_extra "omL") | ((with_reducible refine o_gsubc ?_); k_extra "omL") | ((with_reducible refine o_gsubv ‹_› ?_); k_extra "omL") | ((with_reducible refine o_gsubvl ‹_› ?_); k_extra "omL") | ((with_reducible refine o_gadd2 ‹_› ?_); k_extra "omL") | ((with_reducible refine o_gaddl ?_); k_extra "omL") | ((with_reducible refine o_gaddm ‹_› (by decide) ?_); k_extra "omL") | fail))
  (k_with "omR" => (first | (with_reducible (first | exact o_self (by decide))) | ((with_reducible refine o_ch ‹_› ?_); k_extra "omR") | ((with_reducible refine o_addch ?_); k_extra "omR") | fail))
  (k_with "omZ" => (first | (k_extra "omR") | (k_extra "omU") | (k_extra "omL") | fail))
  (k_with "omX" => (first | decide | (k_extra "omZ") | (with_reducible (first | exact Int.le_refl _ | exact Nat.le_refl _ | exact o_nle ‹_› (by decide) | exact o_nlt ‹_› (by decide) | exact o_nlel ‹_› (by decide))) | ((with_reducible refine o_ltc ?_); k_extra "omZ") | ((with_reducible refine o_gtc ?_); k_extra "omZ") | (with_reducible (first | exact o_iffn ‹_› ‹_› | exact o_neql ‹_› (by decide) | exact o_neqi ‹_› (by decide))) | ((with_reducible show _ < _); (first | (with_reducible exact Iff.mp ‹_› ‹_›) | k_extra "omA")) | ((repeat (rename _ ≠ _ => hz; clear hz)); (repeat (rename _ ≠ _ ∧ _ => hz; clear hz)); omega +splitDisjunctions) | fail))
  (k_with "omN" => (first | (with_reducible (first | exact o_n1 | exact o_n1' | exact o_ne ‹_› | exact o_ne' ‹_› | exact o_lt ‹_› | exact o_gt ‹_› | exact o_ne (by k_extra "omA") | exact o_ne' (by k_extra "omA") | exact o_lt (by k_extra "omA") | exact o_gt (by k_extra "omA") | exact o_lts1 (by k_extra "omA") | exact o_lts1' (by k_extra "omA") | exact o_lts2 (by k_extra "omA") | exact o_lts2' (by k_extra "omA") | exact o_gt2 ‹_› (by k_extra "omA") | exact o_lt2 ‹_› (by k_extra "omA"))) | fail))
  (k_with "om" => (first | with_reducible assumption | ((first | (with_reducible show _ ≤ _) | (with_reducible show _ < _)); k_extra "omX") | ((with_reducible show _ = _ → False); k_extra "omN") | fail))
  trivial
open PySem PySem.W PyProof.Rows PySem.Calls
theorem reg_add : PySem.Challenge.rw_nn0125_01 = PySem.Challenge.rw_nn0125_01 ∧ KX = KX := by k_fill; exact ⟨rfl, rfl⟩
def Tb (kvs : List (Int × Value)) (n : Int) : Prop := (∀ i, (valueAt kvs i).isSome = decide (1 ≤ i ∧ i ≤ n)) ∧ (kvs.length : Int) = n
theorem Tb.in_ {kvs : List (Int × Value)} {n i : Int} (h : Tb kvs n) : (valueAt kvs i).isSome = decide (1 ≤ i ∧ i ≤ n) := h.1 i
theorem Tb.none {kvs : List (Int × Value)} {n i : Int} (h : Tb kvs n) (hi : n < i) : valueAt kvs i = none := by
  have := h.1 i
  rw [decide_eq_false (by omega)] at this
  exact Option.isNone_iff_eq_none.mp (by simpa using this)
theorem tb_nil : Tb [] 0 := ⟨fun i => by rw [decide_eq_false (by omega)]; rfl, rfl⟩
theorem tb_any {kvs : List (Int × Value)} {k : Int} (h : valueAt kvs k = none) : kvs.any (fun kv => kv.1 = k) = false := by
  unfold valueAt at h
  rw [Option.map_eq_none_iff, List.find?_eq_none] at h
  rw [List.any_eq_false]
  exact h
theorem tb_stored {kvs : List (Int × Value)} {n : Int} {v : Value} (h : Tb kvs n) : stored kvs (n + 1) v = kvs ++ [(n + 1, v)] := by
  unfold stored
  rw [tb_any (h.none (by omega))]
  rfl
theorem tb_at {kvs : List (Int × Value)} {n i : Int} {v : Value} (h : Tb kvs n) : valueAt (stored kvs (n + 1) v) i = if i = n + 1 then some v else valueAt kvs i := by
  rw [tb_stored h]
  unfold valueAt
  rw [List.find?_append]
  by_cases e : i = n + 1
  · subst e
    have := h.none (i := n + 1) (by omega)
    unfold valueAt at this
    rw [Option.map_eq_none_iff] at this
    rw [this]
    simp
  · rw [if_neg e]
    have : ([(n + 1, v)] : List (Int × Value)).find? (fun kv => decide (kv.1 = i)) = Option.none := by simp [Ne.symm e]
    rw [this, Option.or_none]
theorem tb_next {kvs : List (Int × Value)} {n : Int} {v : Value} (h : Tb kvs n) (hn : 0 ≤ n) : Tb (stored kvs (n + 1) v) (n + 1) := by
  refine ⟨fun i => ?_, by rw [tb_stored h, List.length_append]; have := h.2; simp; omega⟩
  rw [tb_at h]
  by_cases e : i = n + 1
  · subst e
    rw [if_pos rfl, decide_eq_true (by omega)]
    rfl
  · rw [if_neg e, h.1 i]
    exact decide_eq_decide.mpr (by omega)
abbrev tupO (vs : Array Value) (n : Nat) : Obj := { cls := .type "tuple", data := .seq vs n }
inductive AddPost (w : World) (T : Addr) (kvs : List (Int × Value)) (n : Int) (v : Value) (oT : Obj) (nw : Led) (r : Value) : Prop
  | mk : ∀ t R dR nn k0 k1 k2 k3 k4, nw = [(t, tupO #[.int 0 k0, v] nn), (R, instObj 289 dR), (dR, refD w k1 k2 k3 k4 (n + 1) 0)] → r = .ref R → oT.IsDictOf (intKind PW w) (stored kvs (n + 1) (.ref t)) → t ≠ T → R ≠ T → dR ≠ T → AddPost w T kvs n v oT nw r
theorem add_end {w : World} {base : Heap} {outer : List Env} {s : Shared} {g h' : Heap} {L S dS T T2 t R dR : Addr} {m : Str → Option Value} {all : Led} {tk nn : Nat} {k0 k1 k2 k3 k4 k5 k6 : Tok} {oT oT' : Obj} {kvs : List (Int × Value)} {n i : Int} {v : Value} (G : Ground s [(S, instObj 405 dS), (dS, shD w k5 k6 T T2), (T, oT)] g)
    (hl : LedOk base outer s.heap [(S, instObj 405 dS), (dS, shD w k5 k6 T T2), (T, oT)]) (F : Fr g L h' m) (N : News g L h' all) (m0 : (S, instObj 405 dS) ∈ all) (m1 : (dS, shD w k5 k6 T T2) ∈ all) (m2 : (T, oT') ∈ all) (m3 : (t, tupO #[.int 0 k0, v] nn) ∈ all) (m4 : (R, instObj 289 dR) ∈ all) (m5 : (dR, refD w k1 k2 k3 k4 i 0) ∈ all)
    (hi : i = n + 1) (hd : oT'.IsDictOf (intKind PW w) (stored kvs i (.ref t))) (n1 : t ≠ S ∧ t ≠ dS ∧ t ≠ T) (n2 : R ≠ S ∧ R ≠ dS ∧ R ≠ T) (n3 : dR ≠ S ∧ dR ≠ dS ∧ dR ≠ T) :
    Ok s [T] (fun nw r => ∃ o nw', nw = (T, o) :: nw' ∧ AddPost w T kvs n v o nw' r) (.ref R) { s with heap := h', toks := tk } := by
  subst hi
  refine ⟨h', tk, [(T, oT'), (t, tupO #[.int 0 k0, v] nn), (R, instObj 289 dR), (dR, refD w k1 k2 k3 k4 (n + 1) 0)], rfl, keep_of G hl F N (fun q hq hne => by
    rcases List.mem_cons.mp hq with rfl | hq
    · exact m0
    · rcases List.mem_cons.mp hq with rfl | hq
      · exact m1
      · rw [List.mem_singleton.mp hq] at hne; exact absurd (List.mem_singleton.mpr rfl) hne), ?_, _, _, rfl, t, R, dR, nn, _, _, _, _, _, rfl, rfl, hd, n1.2.2, n2.2.2, n3.2.2⟩
  simp only [List.forall_mem_cons]
  exact ⟨⟨(N _ m2).1, .inr (.head _)⟩, ⟨(N _ m3).1, .inl (new_of G N m3 (by simpa using n1)).2⟩, ⟨(N _ m4).1, .inl (new_of G N m4 (by simpa using n2)).2⟩, ⟨(N _ m5).1, .inl (new_of G N m5 (by simpa using n3)).2⟩, fun _ hq => nomatch hq⟩
theorem upd_upd {x : Str} {u v : Option Value} {m : Str → Option Value} : (fun y => if y = x then v else (fun y => if y = x then u else m y) y) = fun y => if y = x then v else m y := by
  funext y
  by_cases h : y = x <;> simp [h]
def AddStep (h₀ : Heap) (L : Addr) (s : Shared) (i : Int) (m₀ : Str → Option Value) (N₀ : Led) (f : Flow) (s₃ : Shared) : Prop :=
  f = .next ∧ ∃ h' tk t', s₃ = { s with heap := h', toks := tk } ∧ Fr h₀ L h' (fun y => if y = ("number" : Str) then some (.int (i + 1) t') else m₀ y) ∧ News h₀ L h' N₀
theorem addStep_intro {h₀ h' : Heap} {L : Addr} {s : Shared} {i : Int} {tk : Nat} {t' : Tok} {u : Option Value} {m₀ : Str → Option Value} {N₀ : Led}
    (F : Fr h₀ L h' (fun y => if y = ("number" : Str) then some (.int (i + 1) t') else (fun y => if y = ("number" : Str) then u else m₀ y) y)) (N : News h₀ L h' N₀) : AddStep h₀ L s i m₀ N₀ .next { s with heap := h', toks := tk } := by
  rw [upd_upd] at F
  exact ⟨rfl, _, _, _, rfl, F, N⟩
theorem While_add {prog : Program} {w : World} {A : Around} {E : Value → Shared → Prop} {Q : Flow → Shared → Prop} {s : Shared} {env : Env} {h₀ : Heap} {L : Addr} {test : Expr} {body : List Stmt} {pos : Pos} {m₀ : Str → Option Value} {N₀ : Led} {kvs : List (Int × Value)} {n : Int} {t : Tok}
    (uhTb : Tb kvs n) (hn : 0 ≤ n) (F : Fr h₀ L s.heap (fun y => if y = ("number" : Str) then some (.int 1 t) else m₀ y)) (N : News h₀ L s.heap N₀)
    (turn : ∀ i t h₁ tk₁, Fr h₀ L h₁ (fun y => if y = ("number" : Str) then some (.int i t) else m₀ y) → News h₀ L h₁ N₀ → 1 ≤ i → i ≤ n + 1 →
      wpAny (model prog w) A (isTrue test env (eval test env)) (fun b s₂ => if b = true then i ≤ n ∧ wpAny (model prog w) A (execs body env) (AddStep h₀ L s i m₀ N₀) E s₂ else Q .next s₂) E { s with heap := h₁, toks := tk₁ })
    (hE : PassesOwn (model prog w) A env E := by passes_own) : wpAny (model prog w) A (exec (.While test body [] pos) env) Q E s := by
  refine While_inv (fun k m news => ∃ i t, m = (fun y => if y = ("number" : Str) then some (.int i t) else m₀ y) ∧ news = N₀ ∧ 1 ≤ i ∧ i ≤ n + 1 ∧ (k : Int) = n + 1 - i) (n₀ := n.toNat) F N ⟨1, t, rfl, rfl, by omega, by omega, by omega⟩ ?_ hE
  rintro k m₁ news₁ h₁ tk₁ F₁ N₁ ⟨i, t, rfl, rfl, h1, h2, h3⟩
  refine wpAny_mono (turn i t h₁ tk₁ F₁ N₁ h1 h2) (fun b s₂ z => ?_) fun _ _ z => z
  cases b with
  | false => exact z
  | true =>
    simp only [if_true] at z ⊢
    obtain ⟨z1, z2⟩ := z
    refine wpAny_mono z2 (fun f s₃ y => ?_) fun _ _ z => z
    obtain ⟨rfl, h', tk, t', rfl, F', N'⟩ := y
    exact .intro F' N' (n' := k - 1) (by omega) ⟨i + 1, t', rfl, rfl, by omega, by omega, by omega⟩
section
variable {w : World} {p : Program} {loose : List Str} {mean : ExcName → Option Value} {mg mb : Str → Option Value} {base : Heap} {outer : List Env} {s : Shared} {dp un : Nat} {gd : Option (List Code)}
theorem rg_Add86 : True := by
  (k_with "exec For Name Call cons nil" => ((k_here; (rename Fr _ _ _ _ => lF'); (with_unfolding_all refine' For_invVF lF' ?k1z1 ?k2z1 ?_; (case k1z1 => exact rfl); (case k2z1 => exact rfl); k_whole))))
  (k_with "exec For Name Subscript cons nil" => ((k_here; (rename Fr _ _ _ _ => lF'); (with_unfolding_all refine' For_invVF lF' ?k1z2 ?k2z2 ?_; (case k1z2 => exact rfl); (case k2z2 => exact rfl); k_whole))))
  (k_with "exec While Compare" => ((k_here; k_dflt (refine' While_add ?Tz3 ?nz3 ?Fz3 ?Nz3 ?_ ?Ez3; (case Tz3 => assumption); (case nz3 => assumption); (case Fz3 => k_asm); (case Nz3 => k_asm); (case Ez3 => first | passes_own | with_unfolding_all passes_own)); intro _ _ _ _ _ _ _ _)))
  (k_with "compareOp In int ref" => ((k_here; k_dflt (refine' kda_in (knd := intKind PW _) ?Nz4 ?mz4 ?dz4 ?loz4 (intKind_is _ _ _ _) _ ?bz4 ?_; (case Nz4 => k_asm); (case mz4 => k_mem); (case dz4 => assumption); (case loz4 => assumption); (case bz4 => exact Tb.in_ (by assumption))))))
  (k_with "setItem ref int" => ((k_here; k_dflt (refine' kda_set (knd := intKind PW _) ?Fz5 ?Nz5 ?Uz5 ?dz5 (intKind_is _ _ _ _) ?zz5 ?_; (case Fz5 => k_asm); (case Nz5 => k_asm); (case Uz5 => k_updF); (case dz5 => assumption); (case zz5 => (rw [sizeLine_eq]; omega))); intro _ _ _ N'; (try dsimp only at N'); revert N'; intro _ _)))
  trivial
set_option maxRecDepth 100000
set_option maxHeartbeats 8000000
theorem add_ok {S dS T T2 : Addr} {oT : Obj} {kvs : List (Int × Value)} {n : Int} {v : Value} {k1 k2 : Tok} (hdp : dp ≤ 560) (hun : un ≤ 4800) (Cc : Cx w p loose mean mg mb base outer s.heap)
    (hl : LedOk base outer s.heap [(S, instObj 405 dS), (dS, shD w k1 k2 T T2), (T, oT)]) (hne : S ≠ dS ∧ S ≠ T ∧ dS ≠ T) (hd : oT.IsDictOf (intKind PW w) kvs) (lo : (T == sysModules) = false) (hTb : Tb kvs n) (hn0 : 0 ≤ n) (hn : n ≤ 100) :
    wpAny (model PW w) (kA dp un gd outer) (call (.ref 376) [.ref S, v]) (Ok s [T] (fun nw r => ∃ o nw', nw = (T, o) :: nw' ∧ AddPost w T kvs n v o nw' r)) Never s := by
  refine wpAny_le (dp' := 560) (un' := 4800) ?_ hdp hun
  refine wpAny_call ?_
  have W' := Cc.W
  have hlen := hTb.2
  obtain ⟨hne1, hne2, hne3⟩ := hne
  k_dflt (refine' enter (led := [(S, instObj 405 dS), (dS, shD w k1 k2 T T2), (T, oT)]) Cc hl ?k6 ?k7 ?k8 ?k9 ?kB ?_ ?c2 ?c3 ?c4 ?c5; (case k6 => k_is); (case k7 => k_is); (case k8 => decide); (case k9 => exact BindsTo.of_eq rfl); (case c5 => decide); (case kB => exact locs rfl); (case c2 => exact rfl); (case c3 => exact rfl); (case c4 => exact rfl))
  intro g L' h' G hL' F' N' B' X' T'
  (try dsimp only); (try k_fold)
  repeat' (first | (k_end; exact add_end G hl (by assumption) (by assumption) (by k_mem) (by k_mem) (by k_mem) (by k_mem) (by k_mem) (by k_mem) (by omega) (by assumption) ⟨by k_ne, by k_ne, by k_ne⟩ ⟨by k_ne, by k_ne, by k_ne⟩ ⟨by k_ne, by k_ne, by k_ne⟩) | (k_end; exact addStep_intro (by assumption) (by assumption)) | (k_unfold; (try dsimp only)) | walk1 | (dsimp only; walk1) | (refine And.intro (by omega) ?_) | fail "no step")
  all_goals w_report
end
end
section
theorem rg_Use : True := by
  k_with_none
  (k_with "omA" => (first | (with_reducible (first | exact And.left ‹_› | exact And.left (And.right ‹_›) | exact And.left (And.right (And.right ‹_›)) | exact And.left (And.right (And.right (And.right ‹_›))) | exact And.left (And.right (And.right (And.right (And.right ‹_›)))) | exact And.left (And.right (And.right (And.right (And.right (And.right ‹_›))))) | exact And.left (And.right (And.right (And.right (And.right (And.right (And.right ‹_›)))))) | exact And.left (And.right (And.right (And.right (And.right (And.right (And.right (And.right ‹_›))))))) | exact And.left (And.right (And.right (And.right (And.right (And.right (And.right (And.right (And.right ‹_›)))))))) | exact And.left (And.right (And.right (And.right (And.right (And.right (And.right (And.right (And.right (And.right ‹_›))))))))) | exact And.left (And.right (And.right (And.right (And.right (And.right (And.right (And.right (And.right (And.right (And.right ‹_›)))))))))) | exact And.left (And.right (And.right (And.right (And.right (And.right (And.right (And.right (And.right (And.right (And.right (And.right ‹_›))))))))))) | exact And.left (And.right (And.right (And.right (And.right (And.right (And.right (And.right (And.right (And.right (And.right (And.right (And.right ‹_›)))))))))))) | exact And.left (And.right (And.right (And.right (And.right (And.right (And.right (And.right (And.right (And.right (And.right (And.right (And.right (And.right ‹_›))))))))))))) | exact And.left (And.right (And.right (And.right (And.right (And.right (And.right (And.right (And.right (And.right (And.right (And.right (And.right (And.right (And.right ‹_›)))))))))))))) | exact And.left (And.right (And.right (And.right (And.right (And.right (And.right (And.right (And.right (And.right (And.right (And.right (And.right (And.right (And.right (And.right ‹_›))))))))))))))) | exact And.left (And.right (And.right (And.right (And.right (And.right (And.right (And.right (And.right (And.right (And.right (And.right (And.right (And.right (And.right (And.right (And.right ‹_›)))))))))))))))) | exact And.right ‹_› | exact And.right (And.right ‹_›) | exact And.right (And.right (And.right ‹_›)) | exact And.right (And.right (And.right (And.right ‹_›))) | exact And.right (And.right (And.right (And.right (And.right ‹_›)))))) | fail))
  (k_with "omC" => (first | decide | fail))
  (k_with "omU" => (first | (k_extra "omC") | (with_reducible (first | exact o_le ‹_› (by decide) | exact o_lel ‹_› (by decide) | exact o_mul ‹_› (by decide) (by decide) | exact o_mull ‹_› (by decide) (by decide))) | ((with_reducible refine o_chl ‹_› ?_); k_extra "omU") | ((with_reducible refine o_addc ?_); k_extra "omU") | ((with_reducible refine o_subc ?_); k_extra "omU") | ((with_reducible refine o_subv ‹_› ?_); k_extra "omU") | ((with_reducible refine o_add2 ‹_› ?_); k_extra "omU") | ((with_reducible refine o_add2l ‹_› ?_); k_extra "omU") | ((with_reducible refine o_addl ?_); k_extra "omU") | ((with_reducible refine o_addm ‹_› (by decide) ?_); k_extra "omU") | fail))
  (k_with "omL" => (first | (k_extra "omC") | (with_reducible (first | exact o_ge ‹_› (by decide) | exact o_gel ‹_› (by decide) | exact o_gmul ‹_› (by decide) (by decide))) | ((with_reducible refine o_gaddc ?_); k_extra "omL") | ((with_reducible refine o_gsubc ?_); k_extra "omL") | ((with_reducible refine o_gsubv ‹_› ?_); k_extra "omL") | ((with_reducible refine o_gsubvl ‹_› ?_); k_extra "omL") | ((with_reducible refine o_gadd2 ‹_› ?_); k_extra "omL") | ((with_reducible refine o_gaddl ?_); k_extra "omL") | ((with_reducible refine o_gaddm ‹_› (by decide) ?_); k_extra "omL") | fail))
  (k_with "omR" => (first | (with_reducible (first | exact o_self (by decide))) | ((with_reducible refine o_ch ‹_› ?_); k_extra "omR") | ((with_reducible refine o_addch ?_); k_extra "omR") | fail))
  (k_with "omZ" => (first | (k_extra "omR") | (k_extra "omU") | (k_extra "omL") | fail))
  (k_with "omX" => (first | decide | (k_extra "omZ") | (with_reducible (first | exact Int.le_refl _ | exact Nat.le_refl _ | exact o_nle ‹_› (by decide) | exact o_nlt ‹_› (by decide) | exact o_nlel ‹_› (by decide))) | ((with_reducible refine o_ltc ?_); k_extra "omZ") | ((with_reducible refine o_gtc ?_); k_extra "omZ") | (with_reducible (first | exact o_iffn ‹_› ‹_› | exact o_neql ‹_› (by decide) | exact o_neqi ‹_› (by decide))) | ((with_reducible show _ < _); (first | (with_reducible exact Iff.mp ‹_› ‹_›) | k_extra "omA")) | ((repeat (rename _ ≠ _ => hz; clear hz)); (repeat (rename _ ≠ _ ∧ _ => hz; clear hz)); omega +splitDisjunctions) | fail))
  (k_with "omN" => (first | (with_reducible (first | exact o_n1 | exact o_n1' | exact o_ne ‹_› | exact o_ne' ‹_› | exact o_lt ‹_› | exact o_gt ‹_› | exact o_ne (by k_extra "omA") | exact o_ne' (by k_extra "omA") | exact o_lt (by k_extra "omA") | exact o_gt (by k_extra "omA") | exact o_lts1 (by k_extra "omA") | exact o_lts1' (by k_extra "omA") | exact o_lts2 (by k_extra "omA") | exact o_lts2' (by k_extra "omA") | exact o_gt2 ‹_› (by k_extra "omA") | exact o_lt2 ‹_› (by k_extra "omA"))) | fail))
  (k_with "om" => (first | with_reducible assumption | ((first | (with_reducible show _ ≤ _) | (with_reducible show _ < _)); k_extra "omX") | ((with_reducible show _ = _ → False); k_extra "omN") | fail))
  trivial
open PySem PySem.W PyProof.Rows PySem.Calls
theorem reg_use : PySem.Challenge.rw_nn0125_01 = PySem.Challenge.rw_nn0125_01 ∧ KX = KX := by k_fill; exact ⟨rfl, rfl⟩
section
variable {w : World} {p : Program} {loose : List Str} {mean : ExcName → Option Value} {mg mb : Str → Option Value} {base : Heap} {outer : List Env} {s : Shared} {A A₀ : Around} {h₀ : Heap} {L : Addr} {m : Str → Option Value} {env : Env} {news : Led} {Q : Value → Shared → Prop} {E : Value → Shared → Prop} {g : Obj → Led}
theorem use1p {M : Model} {A : Around} {t : Sem Value} {s : Shared} {h₀ : Heap} {L : Addr} {m : Str → Option Value} {news : Led} {Q : Value → Shared → Prop} {E : Value → Shared → Prop} {P : Addr} {o : Obj} {g : Obj → Led} {Post : Led → Value → Prop} (c : wpAny M A t (Ok s [P] Post) Never s) (hp : ∀ nw r, Post nw r → ∃ o' nw', nw = (P, o') :: nw') (F : Fr h₀ L s.heap m) (N : News h₀ L s.heap news) (U : UpdF P o news g)
    (k : ∀ r h' tk o' nw, Post ((P, o') :: nw) r → Fr h₀ L h' m → News h₀ L h' (nw ++ g o') → (∀ q ∈ nw, ∀ x ∈ news, x.1 ≠ q.1 ∨ x.1 = P) → Q r { s with heap := h', toks := tk }) : wpAny M A t Q E s :=
  use1 (Post := fun o' nw r => Post ((P, o') :: nw) r) (wpAny_mono c (fun r s' hok => by
    obtain ⟨h', tk', nw, e1, e2, e3, p⟩ := hok
    obtain ⟨o', nw', rfl⟩ := hp _ _ p
    exact ⟨h', tk', _, e1, e2, e3, o', nw', rfl, p⟩) fun _ _ x => x) F N U k
theorem wth_sh {t p : Int} (k : Nat) (h : p ≤ 3) : wth t (p - k) = wth (t * 10 ^ k) p := by
  have e : (3 - (p - k)).toNat = k + (3 - p).toNat := by omega
  unfold wth
  rw [e, Int.pow_add, Int.mul_assoc]
structure At (A : Around) (outer : List Env) (dp un : Nat) : Prop where
  h : A.handled = none
  d : A.depth ≤ dp
  f : A.frames = some outer
  u : A.units ≤ un
theorem use_draw {P C : Addr} {spot left many : Int} {k1 k2 k3 : Tok} {n : Nat} {vs : List Value} {ns : List Int} (W : Wd w p loose mean mg mb base) (B : Below A₀ base outer h₀) (F : Fr h₀ L s.heap m) (N : News h₀ L s.heap news) (hk : EnvAt env L)
    (a1 : At A (env :: outer) 600 5000) (U : UpdF P (penO C spot left k1 k2 n) news g) (hC : h₀.IsList C vs.toArray) (hCP : C ≠ P) (hI : IntsAre vs ns) (hlen : ns.length ≤ 63)
    (hs0 : 0 ≤ spot) (hs1 : spot ≤ 100000) (hl0 : 0 ≤ left) (hm0 : 1 ≤ many) (hm1 : many ≤ 12)
    (k : ∀ d t spot' left' n' k1' k2' h' tk, Fr h₀ L h' m → News h₀ L h' (g (penO C spot' left' k1' k2' n')) → 0 ≤ d → d < many → 0 ≤ spot' → spot' ≤ spot + 1 → 0 ≤ left' → Q (.int d t) { s with heap := h', toks := tk }) :
    wpAny (model PW w) A (call (.ref 457) [.ref P, .int many k3]) Q E s := by
  obtain ⟨pre, post, e, _⟩ := U.split
  have hm : (P, penO C spot left k1 k2 n) ∈ news := by rw [e]; exact List.mem_append_right _ (.head _)
  have c := call_le (draw_ok (Nat.le_refl _) (Nat.le_refl _) (cx_of W B F hk) (led_of hk B F N (fun q hq => by rw [List.mem_singleton.mp hq]; exact hm)) (stays_list F.keep hC) hCP hI hlen hs0 hs1 hl0 hm0 hm1 (k3 := k3) (gd := A.guards)) a1.h a1.d a1.f a1.u
  refine use1p c (fun nw r hp => by obtain ⟨d, t, spot', left', n', k1', k2', rfl, rfl, q⟩ := hp; exact ⟨_, _, rfl⟩) F N U fun r h' tk o' nw hp F' N' _ => ?_
  obtain ⟨d, t, spot', left', n', k1', k2', e, rfl, q1, q2, q3, q4, q5⟩ := hp
  cases e
  exact k d t spot' left' n' k1' k2' h' tk F' N' q1 q2 q3 q4 q5
theorem use_dec {top places : Int} {k1 k2 : Tok} (W : Wd w p loose mean mg mb base) (B : Below A₀ base outer h₀) (F : Fr h₀ L s.heap m) (X₀ : (KX w.params).In h₀) (N : News h₀ L s.heap news) (hk : EnvAt env L)
    (a1 : At A (env :: outer) 599 4999) (b1 : -1000000 ≤ top) (b2 : top ≤ 1000000) (b3 : 0 ≤ places) (b4 : places ≤ 3)
    (k : ∀ x dx t p k1 k2 k3 k4 h' tk, Fr h₀ L h' m → News h₀ L h' ((x, instObj 155 dx) :: (dx, decD w k1 k2 k3 k4 t p) :: news) → (∀ q ∈ news, q.1 < dx) → dx < x → 0 ≤ p → p ≤ 3 → -1000000 ≤ t → t ≤ 1000000 → wth t p = wth top places → Q (.ref x) { s with heap := h', toks := tk }) :
    wpAny (model PW w) A (call (.ref 155) [.int top k1, .int places k2]) Q E s := by
  refine call_cls F X₀ N (by k_is) (by k_is) (by k_is) fun x dx h' F' N' l1 l2 => ?_
  have n1 : x ≠ dx := Nat.ne_of_gt l2
  have c := code_le (A := A.under (.builtin "type.__call__" ⟨[.ref 155, .int top k1, .int places k2], []⟩)) (init_ok (s := { s with heap := h' }) (x := x) (dx := dx) (k := k1) (k' := k2) (cx_of W B F' hk) (led_of hk B F' N' (fun q hq => by
    rcases List.mem_cons.mp hq with rfl | hq
    · exact .head _
    · rw [List.mem_singleton.mp hq]; exact .tail _ (.head _))) n1 b1 b2 b3 b4) a1.h (Nat.succ_le_succ a1.d) a1.f (Nat.succ_le_succ a1.u)
  refine codeAny_mono c fun r s' hr => ?_
  unfold RetOk at hr
  split at hr
  · rename_i v
    obtain ⟨h2, tk, nw, rfl, keep, nws, t', p', k1', k2', k3', k4', rfl, rfl, q1, q2, q3, q4, q5⟩ := hr
    refine ⟨rfl, k x dx t' p' k1' k2' k3' k4' h2 tk ⟨F'.ns.at' fun o e => keep _ o e ?_, fun b o e => keep b o (F'.keep b o e) ?_, F'.above⟩ (fun q hq => ?_) l1 l2 q1 (by omega) q3 q4 ?_⟩
    · have z1 := (N' _ (.head _)).2.1
      have z2 := (N' _ (.tail _ (.head _))).2.1
      simp only [List.mem_cons, List.not_mem_nil, or_false, not_or]
      exact ⟨Ne.symm z1, Ne.symm z2⟩
    · have z1 := (N' _ (.head _)).2.2
      have z2 := (N' _ (.tail _ (.head _))).2.2
      simp only [List.mem_cons, List.not_mem_nil, or_false, not_or]
      exact ⟨fun z => (by rw [z, z1] at e; cases e), fun z => (by rw [z, z2] at e; cases e)⟩
    · rcases List.mem_cons.mp hq with rfl | hq
      · exact ⟨(nws _ (.head _)).1, (N' _ (.head _)).2⟩
      · rcases List.mem_cons.mp hq with rfl | hq
        · exact ⟨(nws _ (.tail _ (.head _))).1, (N' (dx, dictOf [] 0) (.tail _ (.head _))).2⟩
        · have z := N' q (.tail _ (.tail _ hq))
          have := l1 q hq
          refine ⟨keep _ _ z.1 ?_, z.2⟩
          simp only [List.mem_cons, List.not_mem_nil, or_false, not_or]
          exact ⟨Nat.ne_of_lt (Nat.lt_trans this l2), Nat.ne_of_lt this⟩
    · rcases q5 with ⟨rfl, rfl⟩ | ⟨rfl, rfl⟩ | ⟨rfl, rfl⟩ | ⟨rfl, rfl⟩
      · rfl
      · exact wth_sh 1 b4
      · exact wth_sh 2 b4
      · exact wth_sh 3 b4
  · exact hr.elim
theorem use_add {S dS T T2 : Addr} {oT : Obj} {kvs : List (Int × Value)} {n : Int} {v : Value} {k1 k2 : Tok} (W : Wd w p loose mean mg mb base) (B : Below A₀ base outer h₀) (F : Fr h₀ L s.heap m) (N : News h₀ L s.heap news) (hk : EnvAt env L)
    (a1 : At A (env :: outer) 560 4800) (U : UpdF T oT news g) (m1 : (S, instObj 405 dS) ∈ news) (m2 : (dS, shD w k1 k2 T T2) ∈ news) (hne : S ≠ dS ∧ S ≠ T ∧ dS ≠ T) (hd : oT.IsDictOf (intKind PW w) kvs) (lo : (T == sysModules) = false) (hTb : Tb kvs n) (hn0 : 0 ≤ n) (hn : n ≤ 100)
    (k : ∀ t R dR nn k0 k1 k2 k3 k4 oT' h' tk, Fr h₀ L h' m → News h₀ L h' ((t, tupO #[.int 0 k0, v] nn) :: (R, instObj 289 dR) :: (dR, refD w k1 k2 k3 k4 (n + 1) 0) :: g oT') → oT'.IsDictOf (intKind PW w) (stored kvs (n + 1) (.ref t)) → Tb (stored kvs (n + 1) (.ref t)) (n + 1) →
      (∀ q ∈ news, @Ne Nat q.1 t ∧ @Ne Nat q.1 R ∧ @Ne Nat q.1 dR) → Q (.ref R) { s with heap := h', toks := tk }) :
    wpAny (model PW w) A (call (.ref 376) [.ref S, v]) Q E s := by
  obtain ⟨pre, post, e, _⟩ := U.split
  have hm : (T, oT) ∈ news := by rw [e]; exact List.mem_append_right _ (.head _)
  have c := call_le (add_ok (v := v) (gd := A.guards) (Nat.le_refl _) (Nat.le_refl _) (cx_of W B F hk) (led_of (led := [(S, instObj 405 dS), (dS, shD w k1 k2 T T2), (T, oT)]) hk B F N (by simp only [List.forall_mem_cons]; exact ⟨m1, m2, hm, fun _ hq => nomatch hq⟩)) hne hd lo hTb hn0 hn) a1.h a1.d a1.f a1.u
  refine use1 c F N U fun r h' tk o' nw hp F' N' hd' => ?_
  obtain ⟨t, R, dR, nn, k0, k1', k2', k3', k4', rfl, rfl, hd2, n1, n2, n3⟩ := hp
  refine k t R dR nn k0 k1' k2' k3' k4' o' h' tk F' N' hd2 (tb_next hTb hn0) fun q hq => ?_
  exact ⟨(hd' _ (.head _) q hq).elim id fun z => z ▸ Ne.symm n1, (hd' _ (.tail _ (.head _)) q hq).elim id fun z => z ▸ Ne.symm n2, (hd' _ (.tail _ (.tail _ (.head _))) q hq).elim id fun z => z ▸ Ne.symm n3⟩
end
end
section
theorem rg_Pick : True := by
  k_with_none
  (k_with "omA" => (first | (with_reducible (first | exact And.left ‹_› | exact And.left (And.right ‹_›) | exact And.left (And.right (And.right ‹_›)) | exact And.left (And.right (And.right (And.right ‹_›))) | exact And.left (And.right (And.right (And.right (And.right ‹_›)))) | exact And.left (And.right (And.right (And.right (And.right (And.right ‹_›))))) | exact And.left (And.right (And.right (And.right (And.right (And.right (And.right ‹_›)))))) | exact And.left (And.right (And.right (And.right (And.right (And.right (And.right (And.right ‹_›))))))) | exact And.left (And.right (And.right (And.right (And.right (And.right (And.right (And.right (And.right ‹_›)))))))) | exact And.left (And.right (And.right (And.right (And.right (And.right (And.right (And.right (And.right (And.right ‹_›))))))))) | exact And.left (And.right (And.right (And.right (And.right (And.right (And.right (And.right (And.right (And.right (And.right ‹_›)))))))))) | exact And.left (And.right (And.right (And.right (And.right (And.right (And.right (And.right (And.right (And.right (And.right (And.right ‹_›))))))))))) | exact And.left (And.right (And.right (And.right (And.right (And.right (And.right (And.right (And.right (And.right (And.right (And.right (And.right ‹_›)))))))))))) | exact And.left (And.right (And.right (And.right (And.right (And.right (And.right (And.right (And.right (And.right (And.right (And.right (And.right (And.right ‹_›))))))))))))) | exact And.left (And.right (And.right (And.right (And.right (And.right (And.right (And.right (And.right (And.right (And.right (And.right (And.right (And.right (And.right ‹_›)))))))))))))) | exact And.left (And.right (And.right (And.right (And.right (And.right (And.right (And.right (And.right (And.right (And.right (And.right (And.right (And.right (And.right (And.right ‹_›))))))))))))))) | exact And.left (And.right (And.right (And.right (And.right (And.right (And.right (And.right (And.right (And.right (And.right (And.right (And.right (And.right (And.right (And.right (And.right ‹_›)))))))))))))))) | exact And.right ‹_› | exact And.right (And.right ‹_›) | exact And.right (And.right (And.right ‹_›)) | exact And.right (And.right (And.right (And.right ‹_›))) | exact And.right (And.right (And.right (And.right (And.right ‹_›)))))) | fail))
  (k_with "omC" => (first | decide | fail))
  (k_with "omU" => (first | (k_extra "omC") | (with_reducible (first | exact o_le ‹_› (by decide) | exact o_lel ‹_› (by decide) | exact o_mul ‹_› (by decide) (by decide) | exact o_mull ‹_› (by decide) (by decide))) | ((with_reducible refine o_chl ‹_› ?_); k_extra "omU") | ((with_reducible refine o_addc ?_); k_extra "omU") | ((with_reducible refine o_subc ?_); k_extra "omU") | ((with_reducible refine o_subv ‹_› ?_); k_extra "omU") | ((with_reducible refine o_add2 ‹_› ?_); k_extra "omU") | ((with_reducible refine o_add2l ‹_› ?_); k_extra "omU") | ((with_reducible refine o_addl ?_); k_extra "omU") | ((with_reducible refine o_addm ‹_› (by decide) ?_); k_extra "omU") | fail))
  (k_with "omL" => (first | (k_extra "omC") | (with_reducible (first | exact o_ge ‹_› (by decide) | exact o_gel ‹_› (by decide) | exact o_gmul ‹_› (by decide) (by decide))) | ((with_reducible refine o_gaddc ?_); k_extra "omL") | ((with_reducible refine o_gsubc ?_); k_extra "omL") | ((with_reducible refine o_gsubv ‹_› ?_); k_extra "omL") | ((with_reducible refine o_gsubvl ‹_› ?_); k_extra "omL") | ((with_reducible refine o_gadd2 ‹_› ?_); k_extra "omL") | ((with_reducible refine o_gaddl ?_); k_extra "omL") | ((with_reducible refine o_gaddm ‹_› (by decide) ?_); k_extra "omL") | fail))
  (k_with "omR" => (first | (with_reducible (first | exact o_self (by decide))) | ((with_reducible refine o_ch ‹_› ?_); k_extra "omR") | ((with_reducible refine o_addch ?_); k_extra "omR") | fail))
  (k_with "omZ" => (first | (k_extra "omR") | (k_extra "omU") | (k_extra "omL") | fail))
  (k_with "omX" => (first | decide | (k_extra "omZ") | (with_reducible (first | exact Int.le_refl _ | exact Nat.le_refl _ | exact o_nle ‹_› (by decide) | exact o_nlt ‹_› (by decide) | exact o_nlel ‹_› (by decide))) | ((with_reducible refine o_ltc ?_); k_extra "omZ") | ((with_reducible refine o_gtc ?_); k_extra "omZ") | (with_reducible (first | exact o_iffn ‹_› ‹_› | exact o_neql ‹_› (by decide) | exact o_neqi ‹_› (by decide))) | ((with_reducible show _ < _); (first | (with_reducible exact Iff.mp ‹_› ‹_›) | k_extra "omA")) | ((repeat (rename _ ≠ _ => hz; clear hz)); (repeat (rename _ ≠ _ ∧ _ => hz; clear hz)); omega +splitDisjunctions) | fail))
  (k_with "omN" => (first | (with_reducible (first | exact o_n1 | exact o_n1' | exact o_ne ‹_› | exact o_ne' ‹_› | exact o_lt ‹_› | exact o_gt ‹_› | exact o_ne (by k_extra "omA") | exact o_ne' (by k_extra "omA") | exact o_lt (by k_extra "omA") | exact o_gt (by k_extra "omA") | exact o_lts1 (by k_extra "omA") | exact o_lts1' (by k_extra "omA") | exact o_lts2 (by k_extra "omA") | exact o_lts2' (by k_extra "omA") | exact o_gt2 ‹_› (by k_extra "omA") | exact o_lt2 ‹_› (by k_extra "omA"))) | fail))
  (k_with "om" => (first | with_reducible assumption | ((first | (with_reducible show _ ≤ _) | (with_reducible show _ < _)); k_extra "omX") | ((with_reducible show _ = _ → False); k_extra "omN") | fail))
  trivial
open PySem PySem.W PyProof.Rows PySem.Calls
theorem reg_pick : PySem.Challenge.rw_nn0125_01 = PySem.Challenge.rw_nn0125_01 ∧ KX = KX := by k_fill; exact ⟨rfl, rfl⟩
inductive PickPost (P C : Addr) (spot : Int) (l : Addr) (v0 v1 v2 v3 : Value) (n : Nat) (nw : Led) (r : Value) : Prop
  | mk : ∀ spot' left' n' k1' k2', nw = [(P, penO C spot' left' k1' k2' n'), (l, listOf #[v0, v1, v2, v3] n)] → ((r = v0 ∨ r = v1 ∨ r = v2 ∨ r = v3)) → 0 ≤ spot' → spot' ≤ spot + 1 → 0 ≤ left' → PickPost P C spot l v0 v1 v2 v3 n nw r
theorem pick_end {s : Shared} {g h' : Heap} {L P C l : Addr} {m : Str → Option Value} {all : Led} {tk n nn n' : Nat} {k1 k2 k1' k2' : Tok} {spot left spot' left' : Int} {v0 v1 v2 v3 r : Value} (G : Ground s [(P, penO C spot left k1 k2 nn), (l, listOf #[v0, v1, v2, v3] n)] g)
    (F : Fr g L h' m) (N : News g L h' all) (m0 : (P, penO C spot' left' k1' k2' n') ∈ all) (m1 : (l, listOf #[v0, v1, v2, v3] n) ∈ all) (hr : r = v0 ∨ r = v1 ∨ r = v2 ∨ r = v3) (q1 : 0 ≤ spot') (q2 : spot' ≤ spot + 1) (q3 : 0 ≤ left') :
    Ok s [P, l] (PickPost P C spot l v0 v1 v2 v3 n) r { s with heap := h', toks := tk } :=
  led_end (nw := [(P, penO C spot' left' k1' k2' n'), (l, listOf #[v0, v1, v2, v3] n)]) G F N (by simp only [List.forall_mem_cons]; exact ⟨m0, m1, fun _ hq => nomatch hq⟩) ⟨_, _, _, _, _, rfl, hr, q1, q2, q3⟩
abbrev InstPost (C x dx : Addr) (nw : Led) (r : Value) : Prop := ∃ o, nw = [(x, instObj C dx), (dx, o)] ∧ r = .none
theorem inst_end {s : Shared} {g h' : Heap} {L C x dx : Addr} {m : Str → Option Value} {all : Led} {tk : Nat} {od o : Obj} (G : Ground s [(x, instObj C dx), (dx, od)] g) (F : Fr g L h' m) (N : News g L h' all) (h1 : (x, instObj C dx) ∈ all) (h2 : (dx, o) ∈ all) : Ok s [x, dx] (InstPost C x dx) .none { s with heap := h', toks := tk } :=
  led_end (nw := [(x, instObj C dx), (dx, o)]) G F N (List.forall_mem_cons.mpr ⟨h1, List.forall_mem_cons.mpr ⟨h2, fun _ hq => nomatch hq⟩⟩) ⟨_, rfl, rfl⟩
inductive RefPost (w : World) (x dx : Addr) (i j : Int) (nw : Led) (r : Value) : Prop
  | mk : ∀ k1 k2 k3 k4, nw = [(x, instObj 289 dx), (dx, refD w k1 k2 k3 k4 i j)] → r = .none → RefPost w x dx i j nw r
theorem ref_end {w : World} {s : Shared} {g h' : Heap} {L x dx : Addr} {m : Str → Option Value} {all : Led} {tk : Nat} {od : Obj} {k1 k2 k3 k4 : Tok} {i j : Int} (G : Ground s [(x, instObj 289 dx), (dx, od)] g) (F : Fr g L h' m) (N : News g L h' all) (h1 : (x, instObj 289 dx) ∈ all) (h2 : (dx, refD w k1 k2 k3 k4 i j) ∈ all) : Ok s [x, dx] (RefPost w x dx i j) .none { s with heap := h', toks := tk } :=
  led_end (nw := [(x, instObj 289 dx), (dx, refD w k1 k2 k3 k4 i j)]) G F N (List.forall_mem_cons.mpr ⟨h1, List.forall_mem_cons.mpr ⟨h2, fun _ hq => nomatch hq⟩⟩) ⟨_, _, _, _, rfl, rfl⟩
section
variable {w : World} {p : Program} {loose : List Str} {mean : ExcName → Option Value} {mg mb : Str → Option Value} {base : Heap} {outer : List Env} {s : Shared} {gd : Option (List Code)}
theorem rg_Pick17 : True := by
  (k_with "exec For Name Call cons nil" => ((k_here; (rename Fr _ _ _ _ => lF'); (with_unfolding_all refine' For_invVF lF' ?k1z1 ?k2z1 ?_; (case k1z1 => exact rfl); (case k2z1 => exact rfl); k_whole))))
  (k_with "exec For Name Subscript cons nil" => ((k_here; (rename Fr _ _ _ _ => lF'); (with_unfolding_all refine' For_invVF lF' ?k1z2 ?k2z2 ?_; (case k1z2 => exact rfl); (case k2z2 => exact rfl); k_whole))))
  (k_with "call ref" => ((k_here; (with_reducible show wpAny _ _ (call (Value.ref 457) _) _ _ _); k_dflt (refine' use_draw ?Wz3 ?Bz3 ?Fz3 ?Nz3 ?hkz3 ?a1z3 ?Uz3 ?hCz3 ?hCPz3 ?hIz3 ?hlz3 ?hs0z3 ?hs1z3 ?hl0z3 ?hm0z3 ?hm1z3 ?_; (case Fz3 => k_asm); (case Nz3 => k_asm); (case Wz3 => assumption); (case Bz3 => assumption); (case Uz3 => k_updF); (case a1z3 => exact ⟨rfl, le_of_ble rfl, rfl, le_of_ble rfl⟩); (case hkz3 => exact ⟨rfl, rfl⟩); (case hCz3 => first | assumption | exact stays_list (Fr.keep (by assumption)) (by assumption)); (case hCPz3 => assumption); (case hIz3 => assumption); (case hlz3 => assumption); (case hs0z3 => omega); (case hs1z3 => omega); (case hl0z3 => omega); (case hm0z3 => first | decide | omega); (case hm1z3 => first | decide | omega)); intro _ _ _ _ _ _ _ _ _ _ N'; (try dsimp only at N'); revert N'; intro _ _ _ _ _ _; (try k_sweep))))
  trivial
set_option maxRecDepth 100000
set_option maxHeartbeats 8000000
theorem pick_ok {P C l : Addr} {spot left : Int} {k1 k2 : Tok} {nn n : Nat} {v0 v1 v2 v3 : Value} {vs : List Value} {ns : List Int} (Cc : Cx w p loose mean mg mb base outer s.heap)
    (hl : LedOk base outer s.heap [(P, penO C spot left k1 k2 nn), (l, listOf #[v0, v1, v2, v3] n)]) (hC : s.heap.IsList C vs.toArray) (hCP : C ≠ P) (hCn : C ∉ [P, l])
    (hI : IntsAre vs ns) (hlen : ns.length ≤ 63) (hs0 : 0 ≤ spot) (hs1 : spot ≤ 95000) (hl0 : 0 ≤ left) (hne : P ≠ l) :
    wpAny (model PW w) (kA 590 4990 gd outer) (call (.ref 464) [.ref P, .ref l]) (Ok s [P, l] (PickPost P C spot l v0 v1 v2 v3 n)) Never s := by
  refine wpAny_call ?_
  have W' := Cc.W
  replace hne := neN hne
  k_dflt (refine' enter (led := [(P, penO C spot left k1 k2 nn), (l, listOf #[v0, v1, v2, v3] n)]) Cc hl ?k6 ?k7 ?k8 ?k9 ?kB ?_ ?c2 ?c3 ?c4 ?c5; (case k6 => k_is); (case k7 => k_is); (case k8 => decide); (case k9 => exact BindsTo.of_eq rfl); (case c5 => decide); (case kB => exact locs rfl); (case c2 => exact rfl); (case c3 => exact rfl); (case c4 => exact rfl))
  intro g L' h' G hL' F' N' B' X' T'
  have hC' : g.IsList C vs.toArray := isList_ground G hC (by simpa using hCn)
  clear hC
  (try dsimp only); (try k_fold)
  repeat' (first | (k_end; exact pick_end G (by assumption) (by assumption) (by k_mem) (by k_mem) (by first | exact .inl rfl | exact .inr (.inl rfl) | exact .inr (.inr (.inl rfl)) | exact .inr (.inr (.inr rfl))) (by omega) (by omega) (by omega)) | (k_unfold; (try dsimp only)) | walk1 | (dsimp only; walk1) | fail "no step")
  all_goals w_report
theorem name_init {x dx : Addr} {v : Value} (Cc : Cx w p loose mean mg mb base outer s.heap) (hl : LedOk base outer s.heap [(x, instObj 218 dx), (dx, dictOf [] 0)]) (hne : x ≠ dx) :
    codeAny (model PW w) (kA 600 5000 gd outer) (.call (.ref 215) ⟨[.ref x, v], []⟩) (RetOk (Ok s [x, dx] (InstPost 218 x dx))) s := by
  replace hne := neN hne
  k_dflt (refine' enter (led := [(x, instObj 218 dx), (dx, dictOf [] 0)]) Cc hl ?k6 ?k7 ?k8 ?k9 ?kB ?_ ?c2 ?c3 ?c4 ?c5; (case k6 => k_is); (case k7 => k_is); (case k8 => decide); (case k9 => exact BindsTo.of_eq rfl); (case c5 => decide); (case kB => exact locs rfl); (case c2 => exact rfl); (case c3 => exact rfl); (case c4 => exact rfl))
  intro g L' h' G hL' F' N' B' X' T'
  (try dsimp only); (try k_fold)
  repeat' (first | (k_end; exact inst_end G (by assumption) (by assumption) (by k_mem) (by first | exact .head _ | exact .tail _ (.head _))) | (k_unfold; (try dsimp only)) | walk1 | (dsimp only; walk1) | fail "no step")
  all_goals w_report
theorem string_init {x dx : Addr} {v : Value} (Cc : Cx w p loose mean mg mb base outer s.heap) (hl : LedOk base outer s.heap [(x, instObj 240 dx), (dx, dictOf [] 0)]) (hne : x ≠ dx) :
    codeAny (model PW w) (kA 600 5000 gd outer) (.call (.ref 237) ⟨[.ref x, v], []⟩) (RetOk (Ok s [x, dx] (InstPost 240 x dx))) s := by
  replace hne := neN hne
  have X0 := Cc.W.X.keeps Cc.stays
  k_dflt (refine' enter (led := [(x, instObj 240 dx), (dx, dictOf [] 0)]) Cc hl ?k6 ?k7 ?k8 ?k9 ?kB ?_ ?c2 ?c3 ?c4 ?c5; (case k6 => k_is); (case k7 => k_is); (case k8 => decide); (case k9 => exact binds_K X0 rfl (by k_is) rfl rfl rfl); (case c5 => decide); (case kB => exact locs rfl); (case c2 => exact rfl); (case c3 => exact rfl); (case c4 => exact rfl))
  intro g L' h' G hL' F' N' B' X' T'
  (try dsimp only); (try k_fold)
  repeat' (first | (k_end; exact inst_end G (by assumption) (by assumption) (by k_mem) (by first | exact .head _ | exact .tail _ (.head _))) | (k_unfold; (try dsimp only)) | walk1 | (dsimp only; walk1) | fail "no step")
  all_goals w_report
theorem ref_init {x dx : Addr} {i j : Int} {k k' : Tok} (Cc : Cx w p loose mean mg mb base outer s.heap) (hl : LedOk base outer s.heap [(x, instObj 289 dx), (dx, dictOf [] 0)]) (hne : x ≠ dx) :
    codeAny (model PW w) (kA 600 5000 gd outer) (.call (.ref 279) ⟨[.ref x, .int i k, .int j k'], []⟩) (RetOk (Ok s [x, dx] (RefPost w x dx i j))) s := by
  replace hne := neN hne
  k_dflt (refine' enter (led := [(x, instObj 289 dx), (dx, dictOf [] 0)]) Cc hl ?k6 ?k7 ?k8 ?k9 ?kB ?_ ?c2 ?c3 ?c4 ?c5; (case k6 => k_is); (case k7 => k_is); (case k8 => decide); (case k9 => exact BindsTo.of_eq rfl); (case c5 => decide); (case kB => exact locs rfl); (case c2 => exact rfl); (case c3 => exact rfl); (case c4 => exact rfl))
  intro g L' h' G hL' F' N' B' X' T'
  (try dsimp only); (try k_fold)
  repeat' (first | (k_end; exact ref_end G (by assumption) (by assumption) (by k_mem) (by k_mem)) | (k_unfold; (try dsimp only)) | walk1 | (dsimp only; walk1) | fail "no step")
  all_goals w_report
end
end
section
theorem rg_Use2 : True := by
  k_with_none
  (k_with "omA" => (first | (with_reducible (first | exact And.left ‹_› | exact And.left (And.right ‹_›) | exact And.left (And.right (And.right ‹_›)) | exact And.left (And.right (And.right (And.right ‹_›))) | exact And.left (And.right (And.right (And.right (And.right ‹_›)))) | exact And.left (And.right (And.right (And.right (And.right (And.right ‹_›))))) | exact And.left (And.right (And.right (And.right (And.right (And.right (And.right ‹_›)))))) | exact And.left (And.right (And.right (And.right (And.right (And.right (And.right (And.right ‹_›))))))) | exact And.left (And.right (And.right (And.right (And.right (And.right (And.right (And.right (And.right ‹_›)))))))) | exact And.left (And.right (And.right (And.right (And.right (And.right (And.right (And.right (And.right (And.right ‹_›))))))))) | exact And.left (And.right (And.right (And.right (And.right (And.right (And.right (And.right (And.right (And.right (And.right ‹_›)))))))))) | exact And.left (And.right (And.right (And.right (And.right (And.right (And.right (And.right (And.right (And.right (And.right (And.right ‹_›))))))))))) | exact And.left (And.right (And.right (And.right (And.right (And.right (And.right (And.right (And.right (And.right (And.right (And.right (And.right ‹_›)))))))))))) | exact And.left (And.right (And.right (And.right (And.right (And.right (And.right (And.right (And.right (And.right (And.right (And.right (And.right (And.right ‹_›))))))))))))) | exact And.left (And.right (And.right (And.right (And.right (And.right (And.right (And.right (And.right (And.right (And.right (And.right (And.right (And.right (And.right ‹_›)))))))))))))) | exact And.left (And.right (And.right (And.right (And.right (And.right (And.right (And.right (And.right (And.right (And.right (And.right (And.right (And.right (And.right (And.right ‹_›))))))))))))))) | exact And.left (And.right (And.right (And.right (And.right (And.right (And.right (And.right (And.right (And.right (And.right (And.right (And.right (And.right (And.right (And.right (And.right ‹_›)))))))))))))))) | exact And.right ‹_› | exact And.right (And.right ‹_›) | exact And.right (And.right (And.right ‹_›)) | exact And.right (And.right (And.right (And.right ‹_›))) | exact And.right (And.right (And.right (And.right (And.right ‹_›)))))) | fail))
  (k_with "omC" => (first | decide | fail))
  (k_with "omU" => (first | (k_extra "omC") | (with_reducible (first | exact o_le ‹_› (by decide) | exact o_lel ‹_› (by decide) | exact o_mul ‹_› (by decide) (by decide) | exact o_mull ‹_› (by decide) (by decide))) | ((with_reducible refine o_chl ‹_› ?_); k_extra "omU") | ((with_reducible refine o_addc ?_); k_extra "omU") | ((with_reducible refine o_subc ?_); k_extra "omU") | ((with_reducible refine o_subv ‹_› ?_); k_extra "omU") | ((with_reducible refine o_add2 ‹_› ?_); k_extra "omU") | ((with_reducible refine o_add2l ‹_› ?_); k_extra "omU") | ((with_reducible refine o_addl ?_); k_extra "omU") | ((with_reducible refine o_addm ‹_› (by decide) ?_); k_extra "omU") | fail))
  (k_with "omL" => (first | (k_extra "omC") | (with_reducible (first | exact o_ge ‹_› (by decide) | exact o_gel ‹_› (by decide) | exact o_gmul ‹_› (by decide) (by decide))) | ((with_reducible refine o_gaddc ?_); k_extra "omL") | ((with_reducible refine o_gsubc ?_); k_extra "omL") | ((with_reducible refine o_gsubv ‹_› ?_); k_extra "omL") | ((with_reducible refine o_gsubvl ‹_› ?_); k_extra "omL") | ((with_reducible refine o_gadd2 ‹_› ?_); k_extra "omL") | ((with_reducible refine o_gaddl ?_); k_extra "omL") | ((with_reducible refine o_gaddm ‹_› (by decide) ?_); k_extra "omL") | fail))
  (k_with "omR" => (first | (with_reducible (first | exact o_self (by decide))) | ((with_reducible refine o_ch ‹_› ?_); k_extra "omR") | ((with_reducible refine o_addch ?_); k_extra "omR") | fail))
  (k_with "omZ" => (first | (k_extra "omR") | (k_extra "omU") | (k_extra "omL") | fail))
  (k_with "omX" => (first | decide | (k_extra "omZ") | (with_reducible (first | exact Int.le_refl _ | exact Nat.le_refl _ | exact o_nle ‹_› (by decide) | exact o_nlt ‹_› (by decide) | exact o_nlel ‹_› (by decide))) | ((with_reducible refine o_ltc ?_); k_extra "omZ") | ((with_reducible refine o_gtc ?_); k_extra "omZ") | (with_reducible (first | exact o_iffn ‹_› ‹_› | exact o_neql ‹_› (by decide) | exact o_neqi ‹_› (by decide))) | ((with_reducible show _ < _); (first | (with_reducible exact Iff.mp ‹_› ‹_›) | k_extra "omA")) | ((repeat (rename _ ≠ _ => hz; clear hz)); (repeat (rename _ ≠ _ ∧ _ => hz; clear hz)); omega +splitDisjunctions) | fail))
  (k_with "omN" => (first | (with_reducible (first | exact o_n1 | exact o_n1' | exact o_ne ‹_› | exact o_ne' ‹_› | exact o_lt ‹_› | exact o_gt ‹_› | exact o_ne (by k_extra "omA") | exact o_ne' (by k_extra "omA") | exact o_lt (by k_extra "omA") | exact o_gt (by k_extra "omA") | exact o_lts1 (by k_extra "omA") | exact o_lts1' (by k_extra "omA") | exact o_lts2 (by k_extra "omA") | exact o_lts2' (by k_extra "omA") | exact o_gt2 ‹_› (by k_extra "omA") | exact o_lt2 ‹_› (by k_extra "omA"))) | fail))
  (k_with "om" => (first | with_reducible assumption | ((first | (with_reducible show _ ≤ _) | (with_reducible show _ < _)); k_extra "omX") | ((with_reducible show _ = _ → False); k_extra "omN") | fail))
  trivial
open PySem PySem.W PyProof.Rows PySem.Calls
theorem reg_use2 : PySem.Challenge.rw_nn0125_01 = PySem.Challenge.rw_nn0125_01 ∧ KX = KX := by k_fill; exact ⟨rfl, rfl⟩
section
variable {w : World} {p : Program} {loose : List Str} {mean : ExcName → Option Value} {mg mb : Str → Option Value} {base : Heap} {outer : List Env} {s : Shared} {A A₀ : Around} {h₀ : Heap} {L : Addr} {m : Str → Option Value} {env : Env} {news : Led} {Q : Value → Shared → Prop} {E : Value → Shared → Prop} {g : Obj → Led}
theorem use_inst {C fI : Addr} {v : Value} (W : Wd w p loose mean mg mb base) (B : Below A₀ base outer h₀) (F : Fr h₀ L s.heap m) (X₀ : (KX w.params).In h₀) (N : News h₀ L s.heap news) (hk : EnvAt env L)
    (a1 : At A (env :: outer) 599 4999) (hm : makesIn (KX w.params) C = true) (hi : findIn (KX w.params) (.ref C) "__init__" = some (some (.ref fI))) (hf : isFn (KX w.params) (.ref fI) = true)
    (init : ∀ (s : Shared) gd x dx, Cx w p loose mean mg mb base (env :: outer) s.heap → LedOk base (env :: outer) s.heap [(x, instObj C dx), (dx, dictOf [] 0)] → x ≠ dx →
      codeAny (model PW w) (kA 600 5000 gd (env :: outer)) (.call (.ref fI) ⟨[.ref x, v], []⟩) (RetOk (Ok s [x, dx] (InstPost C x dx))) s)
    (k : ∀ x dx o h' tk, Fr h₀ L h' m → News h₀ L h' ((x, instObj C dx) :: (dx, o) :: news) → (∀ q ∈ news, q.1 < dx) → dx < x → Q (.ref x) { s with heap := h', toks := tk }) :
    wpAny (model PW w) A (call (.ref C) [v]) Q E s := by
  refine call_cls F X₀ N hm hi hf fun x dx h' F' N' l1 l2 => ?_
  have n1 : x ≠ dx := Nat.ne_of_gt l2
  have c := code_le (A := A.under (.builtin "type.__call__" ⟨[.ref C, v], []⟩)) (init { s with heap := h' } _ x dx (cx_of W B F' hk) (led_of hk B F' N' (fun q hq => by
    rcases List.mem_cons.mp hq with rfl | hq
    · exact .head _
    · rw [List.mem_singleton.mp hq]; exact .tail _ (.head _))) n1) a1.h (Nat.succ_le_succ a1.d) a1.f (Nat.succ_le_succ a1.u)
  refine codeAny_mono c fun r s' hr => ?_
  unfold RetOk at hr
  split at hr
  · rename_i v
    obtain ⟨h2, tk, nw, rfl, keep, nws, o, rfl, rfl⟩ := hr
    refine ⟨rfl, k x dx o h2 tk ⟨F'.ns.at' fun o e => keep _ o e ?_, fun b o e => keep b o (F'.keep b o e) ?_, F'.above⟩ (fun q hq => ?_) l1 l2⟩
    · have z1 := (N' _ (.head _)).2.1
      have z2 := (N' _ (.tail _ (.head _))).2.1
      simp only [List.mem_cons, List.not_mem_nil, or_false, not_or]
      exact ⟨Ne.symm z1, Ne.symm z2⟩
    · have z1 := (N' _ (.head _)).2.2
      have z2 := (N' _ (.tail _ (.head _))).2.2
      simp only [List.mem_cons, List.not_mem_nil, or_false, not_or]
      exact ⟨fun z => (by rw [z, z1] at e; cases e), fun z => (by rw [z, z2] at e; cases e)⟩
    · rcases List.mem_cons.mp hq with rfl | hq
      · exact ⟨(nws _ (.head _)).1, (N' _ (.head _)).2⟩
      · rcases List.mem_cons.mp hq with rfl | hq
        · exact ⟨(nws _ (.tail _ (.head _))).1, (N' (dx, dictOf [] 0) (.tail _ (.head _))).2⟩
        · have z := N' q (.tail _ (.tail _ hq))
          have := l1 q hq
          refine ⟨keep _ _ z.1 ?_, z.2⟩
          simp only [List.mem_cons, List.not_mem_nil, or_false, not_or]
          exact ⟨Nat.ne_of_lt (Nat.lt_trans this l2), Nat.ne_of_lt this⟩
  · exact hr.elim
theorem use_ref {i₀ j₀ : Int} {k1 k2 : Tok} (W : Wd w p loose mean mg mb base) (B : Below A₀ base outer h₀) (F : Fr h₀ L s.heap m) (X₀ : (KX w.params).In h₀) (N : News h₀ L s.heap news) (hk : EnvAt env L)
    (a1 : At A (env :: outer) 599 4999)
    (k : ∀ x dx k1 k2 k3 k4 h' tk, Fr h₀ L h' m → News h₀ L h' ((x, instObj 289 dx) :: (dx, refD w k1 k2 k3 k4 i₀ j₀) :: news) → (∀ q ∈ news, q.1 < dx) → dx < x → Q (.ref x) { s with heap := h', toks := tk }) :
    wpAny (model PW w) A (call (.ref 289) [.int i₀ k1, .int j₀ k2]) Q E s := by
  refine call_cls F X₀ N (by k_is) (by k_is) (by k_is) fun x dx h' F' N' l1 l2 => ?_
  have n1 : x ≠ dx := Nat.ne_of_gt l2
  have c := code_le (A := A.under (.builtin "type.__call__" ⟨[.ref 289, .int i₀ k1, .int j₀ k2], []⟩)) (ref_init (s := { s with heap := h' }) (x := x) (dx := dx) (i := i₀) (j := j₀) (k := k1) (k' := k2) (cx_of W B F' hk) (led_of hk B F' N' (fun q hq => by
    rcases List.mem_cons.mp hq with rfl | hq
    · exact .head _
    · rw [List.mem_singleton.mp hq]; exact .tail _ (.head _))) n1) a1.h (Nat.succ_le_succ a1.d) a1.f (Nat.succ_le_succ a1.u)
  refine codeAny_mono c fun r s' hr => ?_
  unfold RetOk at hr
  split at hr
  · rename_i v
    obtain ⟨h2, tk, nw, rfl, keep, nws, k1', k2', k3', k4', rfl, rfl⟩ := hr
    refine ⟨rfl, k x dx k1' k2' k3' k4' h2 tk ⟨F'.ns.at' fun o e => keep _ o e ?_, fun b o e => keep b o (F'.keep b o e) ?_, F'.above⟩ (fun q hq => ?_) l1 l2⟩
    · have z1 := (N' _ (.head _)).2.1
      have z2 := (N' _ (.tail _ (.head _))).2.1
      simp only [List.mem_cons, List.not_mem_nil, or_false, not_or]
      exact ⟨Ne.symm z1, Ne.symm z2⟩
    · have z1 := (N' _ (.head _)).2.2
      have z2 := (N' _ (.tail _ (.head _))).2.2
      simp only [List.mem_cons, List.not_mem_nil, or_false, not_or]
      exact ⟨fun z => (by rw [z, z1] at e; cases e), fun z => (by rw [z, z2] at e; cases e)⟩
    · rcases List.mem_cons.mp hq with rfl | hq
      · exact ⟨(nws _ (.head _)).1, (N' _ (.head _)).2⟩
      · rcases List.mem_cons.mp hq with rfl | hq
        · exact ⟨(nws _ (.tail _ (.head _))).1, (N' (dx, dictOf [] 0) (.tail _ (.head _))).2⟩
        · have z := N' q (.tail _ (.tail _ hq))
          have := l1 q hq
          refine ⟨keep _ _ z.1 ?_, z.2⟩
          simp only [List.mem_cons, List.not_mem_nil, or_false, not_or]
          exact ⟨Nat.ne_of_lt (Nat.lt_trans this l2), Nat.ne_of_lt this⟩
  · exact hr.elim
theorem use_name {v : Value} (W : Wd w p loose mean mg mb base) (B : Below A₀ base outer h₀) (F : Fr h₀ L s.heap m) (X₀ : (KX w.params).In h₀) (N : News h₀ L s.heap news) (hk : EnvAt env L) (a1 : At A (env :: outer) 599 4999)
    (k : ∀ x dx o h' tk, Fr h₀ L h' m → News h₀ L h' ((x, instObj 218 dx) :: (dx, o) :: news) → (∀ q ∈ news, q.1 < dx) → dx < x → Q (.ref x) { s with heap := h', toks := tk }) : wpAny (model PW w) A (call (.ref 218) [v]) Q E s :=
  use_inst W B F X₀ N hk a1 (by k_is) (by k_is) (by k_is) (fun _ _ _ _ C l n => name_init C l n) k
theorem use_string {v : Value} (W : Wd w p loose mean mg mb base) (B : Below A₀ base outer h₀) (F : Fr h₀ L s.heap m) (X₀ : (KX w.params).In h₀) (N : News h₀ L s.heap news) (hk : EnvAt env L) (a1 : At A (env :: outer) 599 4999)
    (k : ∀ x dx o h' tk, Fr h₀ L h' m → News h₀ L h' ((x, instObj 240 dx) :: (dx, o) :: news) → (∀ q ∈ news, q.1 < dx) → dx < x → Q (.ref x) { s with heap := h', toks := tk }) : wpAny (model PW w) A (call (.ref 240) [v]) Q E s :=
  use_inst W B F X₀ N hk a1 (by k_is) (by k_is) (by k_is) (fun _ _ _ _ C l n => string_init C l n) k
theorem use_pick {P C l : Addr} {spot left : Int} {k1 k2 : Tok} {nn n : Nat} {v0 v1 v2 v3 : Value} {vs : List Value} {ns : List Int} (W : Wd w p loose mean mg mb base) (B : Below A₀ base outer h₀) (F : Fr h₀ L s.heap m) (N : News h₀ L s.heap news) (hk : EnvAt env L)
    (a1 : At A (env :: outer) 590 4990) (U : UpdF P (penO C spot left k1 k2 nn) news g) (ml : (l, listOf #[v0, v1, v2, v3] n) ∈ news) (hC : h₀.IsList C vs.toArray) (hCP : C ≠ P) (hne : P ≠ l) (hI : IntsAre vs ns) (hlen : ns.length ≤ 63)
    (hs0 : 0 ≤ spot) (hs1 : spot ≤ 95000) (hl0 : 0 ≤ left)
    (k : ∀ r spot' left' n' k1' k2' h' tk, Fr h₀ L h' m → News h₀ L h' (g (penO C spot' left' k1' k2' n')) → (r = v0 ∨ r = v1 ∨ r = v2 ∨ r = v3) → 0 ≤ spot' → spot' ≤ spot + 1 → 0 ≤ left' → Q r { s with heap := h', toks := tk }) :
    wpAny (model PW w) A (call (.ref 464) [.ref P, .ref l]) Q E s := by
  obtain ⟨pre, post, e, _⟩ := U.split
  have hm : (P, penO C spot left k1 k2 nn) ∈ news := by rw [e]; exact List.mem_append_right _ (.head _)
  have hCl : C ≠ l := fun z => by
    obtain ⟨o, ho, _⟩ := hC
    have := (N _ ml).2.2
    rw [← z, ho] at this; cases this
  have c := call_le (pick_ok (gd := A.guards) (cx_of W B F hk) (led_of (led := [(P, penO C spot left k1 k2 nn), (l, listOf #[v0, v1, v2, v3] n)]) hk B F N (by simp only [List.forall_mem_cons]; exact ⟨hm, ml, fun _ hq => nomatch hq⟩)) (stays_list F.keep hC) hCP (by simp only [List.mem_cons, List.not_mem_nil, or_false, not_or]; exact ⟨hCP, hCl⟩) hI hlen hs0 hs1 hl0 hne) a1.h a1.d a1.f a1.u
  refine use1 (Post := fun o' nw r => nw = [] ∧ ∃ spot' left' n' k1' k2', o' = penO C spot' left' k1' k2' n' ∧ (r = v0 ∨ r = v1 ∨ r = v2 ∨ r = v3) ∧ 0 ≤ spot' ∧ spot' ≤ spot + 1 ∧ 0 ≤ left') (wpAny_mono c (fun r s' hok => ?_) fun _ _ x => x) F N U fun r h' tk o' nw hp F' N' _ => ?_
  · obtain ⟨h', tk', nw, e1, e2, e3, spot', left', n', k1', k2', rfl, q0, q1, q2, q3⟩ := hok
    refine ⟨h', tk', [(P, penO C spot' left' k1' k2' n')], e1, fun b o e hb => ?_, fun q hq => ?_, _, [], rfl, rfl, spot', left', n', k1', k2', rfl, q0, q1, q2, q3⟩
    · by_cases hbl : b = l
      · subst hbl
        rw [(N _ ml).1] at e
        cases e
        exact (e3 _ (.tail _ (.head _))).1
      · exact e2 b o e (by simp only [List.mem_cons, List.not_mem_nil, or_false, not_or]; exact ⟨by simpa using hb, hbl⟩)
    · rw [List.mem_singleton.mp hq]
      exact ⟨(e3 _ (.head _)).1, .inr (.head _)⟩
  · obtain ⟨rfl, spot', left', n', k1', k2', rfl, q0, q1, q2, q3⟩ := hp
    exact k r spot' left' n' k1' k2' h' tk F' N' q0 q1 q2 q3
end
def NumV (w : World) (A : Led) (v : Value) (t p : Int) : Prop := 0 ≤ p ∧ p ≤ 3 ∧ -1000000 ≤ t ∧ t ≤ 1000000 ∧ ((∃ k, v = .int t k ∧ p = 0) ∨ ∃ a da k1 k2 k3 k4, v = .ref a ∧ (a, instObj 155 da) ∈ A ∧ (da, decD w k1 k2 k3 k4 t p) ∈ A)
def BadV (A : Led) (v : Value) : Prop := v = .bool true ∨ (∃ a da o, v = .ref a ∧ (a, instObj 218 da) ∈ A ∧ (da, o) ∈ A) ∨ (∃ a da o, v = .ref a ∧ (a, instObj 240 da) ∈ A ∧ (da, o) ∈ A) ∨ (∃ a xs n, v = .ref a ∧ (a, listOf xs n) ∈ A)
def RefV (w : World) (A : Led) (v : Value) (i : Int) : Prop := ∃ a da k1 k2 k3 k4, v = .ref a ∧ (a, instObj 289 da) ∈ A ∧ (da, refD w k1 k2 k3 k4 i 0) ∈ A
def CellV (w : World) (A : Led) (kvs : List (Int × Value)) (v wv : Value) : Prop :=
  (RefV w A v 900 ∧ wv = .none) ∨ (BadV A v ∧ wv = .none) ∨ (∃ t p k, NumV w A v t p ∧ wv = .int (wth t p) k) ∨
    ∃ i t v' k0 nn n p k, RefV w A v i ∧ valueAt kvs i = some (.ref t) ∧ (t, tupO #[.int 0 k0, v'] nn) ∈ A ∧ NumV w A v' n p ∧ wv = .int (wth n p) k
theorem NumV.mono {w : World} {A B : Led} {v : Value} {t p : Int} (h : NumV w A v t p) (s : ∀ q ∈ A, q ∈ B) : NumV w B v t p := by
  obtain ⟨h1, h2, h3, h4, h | ⟨a, da, k1, k2, k3, k4, e, m1, m2⟩⟩ := h
  · exact ⟨h1, h2, h3, h4, .inl h⟩
  · exact ⟨h1, h2, h3, h4, .inr ⟨a, da, k1, k2, k3, k4, e, s _ m1, s _ m2⟩⟩
theorem RefV.mono {w : World} {A B : Led} {v : Value} {i : Int} (h : RefV w A v i) (s : ∀ q ∈ A, q ∈ B) : RefV w B v i := by
  obtain ⟨a, da, k1, k2, k3, k4, e, m1, m2⟩ := h
  exact ⟨a, da, k1, k2, k3, k4, e, s _ m1, s _ m2⟩
theorem BadV.mono {A B : Led} {v : Value} (h : BadV A v) (s : ∀ q ∈ A, q ∈ B) : BadV B v := by
  rcases h with h | ⟨a, da, o, e, m1, m2⟩ | ⟨a, da, o, e, m1, m2⟩ | ⟨a, xs, n, e, m1⟩
  · exact .inl h
  · exact .inr (.inl ⟨a, da, o, e, s _ m1, s _ m2⟩)
  · exact .inr (.inr (.inl ⟨a, da, o, e, s _ m1, s _ m2⟩))
  · exact .inr (.inr (.inr ⟨a, xs, n, e, s _ m1⟩))
theorem CellV.mono {w : World} {A B : Led} {kvs kvs' : List (Int × Value)} {v wv : Value} (h : CellV w A kvs v wv) (s : ∀ q ∈ A, q ∈ B) (hk : ∀ i x, valueAt kvs i = some x → valueAt kvs' i = some x) : CellV w B kvs' v wv := by
  rcases h with ⟨h, e⟩ | ⟨h, e⟩ | ⟨t, p, k, h, e⟩ | ⟨i, t, v', k0, nn, n, p, k, h1, h2, h3, h4, e⟩
  · exact .inl ⟨h.mono s, e⟩
  · exact .inr (.inl ⟨h.mono s, e⟩)
  · exact .inr (.inr (.inl ⟨t, p, k, h.mono s, e⟩))
  · exact .inr (.inr (.inr ⟨i, t, v', k0, nn, n, p, k, h1.mono s, hk _ _ h2, s _ h3, h4.mono s, e⟩))
end
section
theorem rg_Number : True := by
  k_with_none
  (k_with "omA" => (first | (with_reducible (first | exact And.left ‹_› | exact And.left (And.right ‹_›) | exact And.left (And.right (And.right ‹_›)) | exact And.left (And.right (And.right (And.right ‹_›))) | exact And.left (And.right (And.right (And.right (And.right ‹_›)))) | exact And.left (And.right (And.right (And.right (And.right (And.right ‹_›))))) | exact And.left (And.right (And.right (And.right (And.right (And.right (And.right ‹_›)))))) | exact And.left (And.right (And.right (And.right (And.right (And.right (And.right (And.right ‹_›))))))) | exact And.left (And.right (And.right (And.right (And.right (And.right (And.right (And.right (And.right ‹_›)))))))) | exact And.left (And.right (And.right (And.right (And.right (And.right (And.right (And.right (And.right (And.right ‹_›))))))))) | exact And.left (And.right (And.right (And.right (And.right (And.right (And.right (And.right (And.right (And.right (And.right ‹_›)))))))))) | exact And.left (And.right (And.right (And.right (And.right (And.right (And.right (And.right (And.right (And.right (And.right (And.right ‹_›))))))))))) | exact And.left (And.right (And.right (And.right (And.right (And.right (And.right (And.right (And.right (And.right (And.right (And.right (And.right ‹_›)))))))))))) | exact And.left (And.right (And.right (And.right (And.right (And.right (And.right (And.right (And.right (And.right (And.right (And.right (And.right (And.right ‹_›))))))))))))) | exact And.left (And.right (And.right (And.right (And.right (And.right (And.right (And.right (And.right (And.right (And.right (And.right (And.right (And.right (And.right ‹_›)))))))))))))) | exact And.left (And.right (And.right (And.right (And.right (And.right (And.right (And.right (And.right (And.right (And.right (And.right (And.right (And.right (And.right (And.right ‹_›))))))))))))))) | exact And.left (And.right (And.right (And.right (And.right (And.right (And.right (And.right (And.right (And.right (And.right (And.right (And.right (And.right (And.right (And.right (And.right ‹_›)))))))))))))))) | exact And.right ‹_› | exact And.right (And.right ‹_›) | exact And.right (And.right (And.right ‹_›)) | exact And.right (And.right (And.right (And.right ‹_›))) | exact And.right (And.right (And.right (And.right (And.right ‹_›)))))) | fail))
  (k_with "omC" => (first | decide | fail))
  (k_with "omU" => (first | (k_extra "omC") | (with_reducible (first | exact o_le ‹_› (by decide) | exact o_lel ‹_› (by decide) | exact o_mul ‹_› (by decide) (by decide) | exact o_mull ‹_› (by decide) (by decide))) | ((with_reducible refine o_chl ‹_› ?_); k_extra "omU") | ((with_reducible refine o_addc ?_); k_extra "omU") | ((with_reducible refine o_subc ?_); k_extra "omU") | ((with_reducible refine o_subv ‹_› ?_); k_extra "omU") | ((with_reducible refine o_add2 ‹_› ?_); k_extra "omU") | ((with_reducible refine o_add2l ‹_› ?_); k_extra "omU") | ((with_reducible refine o_addl ?_); k_extra "omU") | ((with_reducible refine o_addm ‹_› (by decide) ?_); k_extra "omU") | fail))
  (k_with "omL" => (first | (k_extra "omC") | (with_reducible (first | exact o_ge ‹_› (by decide) | exact o_gel ‹_› (by decide) | exact o_gmul ‹_› (by decide) (by decide))) | ((with_reducible refine o_gaddc ?_); k_extra "omL") | ((with_reducible refine o_gsubc ?_); k_extra "omL") | ((with_reducible refine o_gsubv ‹_› ?_); k_extra "omL") | ((with_reducible refine o_gsubvl ‹_› ?_); k_extra "omL") | ((with_reducible refine o_gadd2 ‹_› ?_); k_extra "omL") | ((with_reducible refine o_gaddl ?_); k_extra "omL") | ((with_reducible refine o_gaddm ‹_› (by decide) ?_); k_extra "omL") | fail))
  (k_with "omR" => (first | (with_reducible (first | exact o_self (by decide))) | ((with_reducible refine o_ch ‹_› ?_); k_extra "omR") | ((with_reducible refine o_addch ?_); k_extra "omR") | fail))
  (k_with "omZ" => (first | (k_extra "omR") | (k_extra "omU") | (k_extra "omL") | fail))
  (k_with "omX" => (first | decide | (k_extra "omZ") | (with_reducible (first | exact Int.le_refl _ | exact Nat.le_refl _ | exact o_nle ‹_› (by decide) | exact o_nlt ‹_› (by decide) | exact o_nlel ‹_› (by decide))) | ((with_reducible refine o_ltc ?_); k_extra "omZ") | ((with_reducible refine o_gtc ?_); k_extra "omZ") | (with_reducible (first | exact o_iffn ‹_› ‹_› | exact o_neql ‹_› (by decide) | exact o_neqi ‹_› (by decide))) | ((with_reducible show _ < _); (first | (with_reducible exact Iff.mp ‹_› ‹_›) | k_extra "omA")) | ((repeat (rename _ ≠ _ => hz; clear hz)); (repeat (rename _ ≠ _ ∧ _ => hz; clear hz)); omega +splitDisjunctions) | fail))
  (k_with "omN" => (first | (with_reducible (first | exact o_n1 | exact o_n1' | exact o_ne ‹_› | exact o_ne' ‹_› | exact o_lt ‹_› | exact o_gt ‹_› | exact o_ne (by k_extra "omA") | exact o_ne' (by k_extra "omA") | exact o_lt (by k_extra "omA") | exact o_gt (by k_extra "omA") | exact o_lts1 (by k_extra "omA") | exact o_lts1' (by k_extra "omA") | exact o_lts2 (by k_extra "omA") | exact o_lts2' (by k_extra "omA") | exact o_gt2 ‹_› (by k_extra "omA") | exact o_lt2 ‹_› (by k_extra "omA"))) | fail))
  (k_with "om" => (first | with_reducible assumption | ((first | (with_reducible show _ ≤ _) | (with_reducible show _ < _)); k_extra "omX") | ((with_reducible show _ = _ → False); k_extra "omN") | fail))
  trivial
open PySem PySem.W PyProof.Rows PySem.Calls
theorem reg_number : PySem.Challenge.rw_nn0125_01 = PySem.Challenge.rw_nn0125_01 ∧ KX = KX := by k_fill; exact ⟨rfl, rfl⟩
theorem tail_ne {A news : Led} {d : Addr} {o : Obj} (hA : ∀ q ∈ A, ∀ x ∈ news, x.1 ≠ q.1) (hm : (d, o) ∈ news) : ∀ q ∈ A, q.1 ≠ d := fun q hq e => hA q hq _ hm e.symm
inductive NumMid (w : World) (h₀ : Heap) (L : Addr) (s : Shared) (m₀ : Str → Option Value) (news : Led) (f : Flow) (s' : Shared) : Prop
  | mk : f = .next → ∀ v t p k h' tk A, s' = { s with heap := h', toks := tk } → Fr h₀ L h' (fun y => if y = ("worth" : Str) then some (.int (wth t p) k) else (fun y => if y = ("one" : Str) then some v else m₀ y) y) → News h₀ L h' (news ++ A) → NumV w A v t p → (∀ q ∈ A, ∀ x ∈ news, x.1 ≠ q.1) → NumMid w h₀ L s m₀ news f s'
theorem mid_int {w : World} {h₀ h' : Heap} {L : Addr} {s : Shared} {m₀ : Str → Option Value} {news all : Led} {tk : Nat} {t : Int} {k k' : Tok} (F : Fr h₀ L h' (fun y => if y = ("worth" : Str) then some (.int (1000 * t) k) else (fun y => if y = ("one" : Str) then some (.int t k') else m₀ y) y)) (N : News h₀ L h' all) (sub : ∀ q ∈ news, q ∈ all)
    (b1 : -1000000 ≤ t) (b2 : t ≤ 1000000) : NumMid w h₀ L s m₀ news .next { s with heap := h', toks := tk } := by
  have e : 1000 * t = wth t 0 := by unfold wth; simp; omega
  rw [e] at F
  exact ⟨rfl, .int t k', t, 0, k, h', tk, [], rfl, F, by rw [List.append_nil]; exact fun q hq => N q (sub q hq), ⟨by omega, by omega, b1, b2, .inl ⟨_, rfl, rfl⟩⟩, fun _ hq => nomatch hq⟩
theorem mid_dec {w : World} {h₀ h' : Heap} {L x dx : Addr} {s : Shared} {m₀ : Str → Option Value} {news all : Led} {tk : Nat} {t p u r : Int} {k k1 k2 k3 k4 : Tok} (F : Fr h₀ L h' (fun y => if y = ("worth" : Str) then some (.int (u * 10 ^ (3 - r).toNat) k) else (fun y => if y = ("one" : Str) then some (.ref x) else m₀ y) y))
    (N : News h₀ L h' all) (sub : ∀ q ∈ news, q ∈ all) (m1 : (x, instObj 155 dx) ∈ all) (m2 : (dx, decD w k1 k2 k3 k4 t p) ∈ all) (e : wth t p = wth u r) (b1 : 0 ≤ p) (b2 : p ≤ 3) (b3 : -1000000 ≤ t) (b4 : t ≤ 1000000) (n1 : ∀ q ∈ news, q.1 ≠ x) (n2 : ∀ q ∈ news, q.1 ≠ dx) : NumMid w h₀ L s m₀ news .next { s with heap := h', toks := tk } := by
  have e2 : u * 10 ^ (3 - r).toNat = wth t p := by rw [e]; rfl
  rw [e2] at F
  refine ⟨rfl, .ref x, t, p, k, h', tk, [(x, instObj 155 dx), (dx, decD w k1 k2 k3 k4 t p)], rfl, F, fun q hq => ?_, ⟨b1, b2, b3, b4, .inr ⟨x, dx, k1, k2, k3, k4, rfl, .head _, .tail _ (.head _)⟩⟩, fun q hq y hy => ?_⟩
  · rcases List.mem_append.mp hq with hq | hq
    · exact N q (sub q hq)
    · rcases List.mem_cons.mp hq with rfl | hq
      · exact N _ m1
      · rw [List.mem_singleton.mp hq]; exact N _ m2
  · rcases List.mem_cons.mp hq with rfl | hq
    · exact n1 y hy
    · rw [List.mem_singleton.mp hq]; exact n2 y hy
theorem join_num {prog : Program} {w : World} {A : Around} {E : Value → Shared → Prop} {Q : Flow → Shared → Prop} {s : Shared} {env : Env} {h₀ : Heap} {L : Addr} {m₀ : Str → Option Value} {news : Led} {stmt : Stmt} {rest : List Stmt} (uF : Fr h₀ L s.heap m₀) (uN : News h₀ L s.heap news)
    (h1 : wpAny (model prog w) A (exec stmt env) (NumMid w h₀ L s m₀ news) E s)
    (h2 : ∀ v t p k h' tk A', Fr h₀ L h' (fun y => if y = ("worth" : Str) then some (.int (wth t p) k) else (fun y => if y = ("one" : Str) then some v else m₀ y) y) → News h₀ L h' (news ++ A') → NumV w A' v t p → (∀ q ∈ A', ∀ x ∈ news, x.1 ≠ q.1) →
      wpAny (model prog w) A (execs rest env) Q E { s with heap := h', toks := tk }) : wpAny (model prog w) A (execs (stmt :: rest) env) Q E s := by
  refine wpAny_execs_cons (wpAny_mono h1 (fun f s' z => ?_) fun _ _ z => z)
  obtain ⟨rfl, v, t, p, k, h', tk, A', rfl, F', N', hn, hA⟩ := z
  exact h2 v t p k h' tk A' F' N' hn hA
abbrev Off (P S dS T a : Addr) : Prop := a ≠ P ∧ a ≠ S ∧ a ≠ dS ∧ a ≠ T
def fresh (P S dS T : Addr) (all : Led) : Led := all.filter fun q => decide (Off P S dS T q.1)
theorem fresh_mem {P S dS T a : Addr} {o : Obj} {all : Led} (h : (a, o) ∈ all) (n : Off P S dS T a) : (a, o) ∈ fresh P S dS T all := List.mem_filter.mpr ⟨h, decide_eq_true n⟩
theorem fresh_sub {P S dS T : Addr} {all A : Led} (h : ∀ q ∈ A, q ∈ all) (n1 : ∀ q ∈ A, q.1 ≠ P) (n2 : ∀ q ∈ A, q.1 ≠ S) (n3 : ∀ q ∈ A, q.1 ≠ dS) (n4 : ∀ q ∈ A, q.1 ≠ T) : ∀ q ∈ A, q ∈ fresh P S dS T all :=
  fun q hq => List.mem_filter.mpr ⟨h q hq, decide_eq_true ⟨n1 q hq, n2 q hq, n3 q hq, n4 q hq⟩⟩
section
variable {w : World} {P S dS T : Addr} {all A : Led} {kvs : List (Int × Value)}
theorem cell_ref {a da : Addr} {k1 k2 k3 k4 : Tok} (m1 : (a, instObj 289 da) ∈ all) (m2 : (da, refD w k1 k2 k3 k4 900 0) ∈ all) (n1 : Off P S dS T a) (n2 : Off P S dS T da) : CellV w (fresh P S dS T all) kvs (.ref a) .none :=
  .inl ⟨⟨a, da, k1, k2, k3, k4, rfl, fresh_mem m1 n1, fresh_mem m2 n2⟩, rfl⟩
theorem cell_bad {a da b db l : Addr} {oa ob : Obj} {xs : Array Value} {n : Nat} {r : Value} (hr : r = .bool true ∨ r = .ref a ∨ r = .ref b ∨ r = .ref l) (m1 : (a, instObj 218 da) ∈ all) (m2 : (da, oa) ∈ all) (m3 : (b, instObj 240 db) ∈ all) (m4 : (db, ob) ∈ all) (m5 : (l, listOf xs n) ∈ all)
    (n1 : Off P S dS T a) (n2 : Off P S dS T da) (n3 : Off P S dS T b) (n4 : Off P S dS T db) (n5 : Off P S dS T l) : CellV w (fresh P S dS T all) kvs r .none := by
  refine .inr (.inl ⟨?_, rfl⟩)
  rcases hr with rfl | rfl | rfl | rfl
  · exact .inl rfl
  · exact .inr (.inl ⟨_, _, _, rfl, fresh_mem m1 n1, fresh_mem m2 n2⟩)
  · exact .inr (.inr (.inl ⟨_, _, _, rfl, fresh_mem m3 n3, fresh_mem m4 n4⟩))
  · exact .inr (.inr (.inr ⟨_, _, _, rfl, fresh_mem m5 n5⟩))
theorem cell_num {v : Value} {t p : Int} {k : Tok} (h : NumV w A v t p) (sub : ∀ q ∈ A, q ∈ all) (n1 : ∀ q ∈ A, q.1 ≠ P) (n2 : ∀ q ∈ A, q.1 ≠ S) (n3 : ∀ q ∈ A, q.1 ≠ dS) (n4 : ∀ q ∈ A, q.1 ≠ T) : CellV w (fresh P S dS T all) kvs v (.int (wth t p) k) :=
  .inr (.inr (.inl ⟨t, p, k, h.mono (fresh_sub sub n1 n2 n3 n4), rfl⟩))
theorem cell_tab {v : Value} {t p n : Int} {k k0 k1 k2 k3 k4 : Tok} {tt R dR : Addr} {nn : Nat} (h : NumV w A v t p) (sub : ∀ q ∈ A, q ∈ all) (n1 : ∀ q ∈ A, q.1 ≠ P) (n2 : ∀ q ∈ A, q.1 ≠ S) (n3 : ∀ q ∈ A, q.1 ≠ dS) (n4 : ∀ q ∈ A, q.1 ≠ T)
    (hTb : Tb kvs n) (m1 : (R, instObj 289 dR) ∈ all) (m2 : (dR, refD w k1 k2 k3 k4 (n + 1) 0) ∈ all) (m3 : (tt, tupO #[.int 0 k0, v] nn) ∈ all) (o1 : Off P S dS T R) (o2 : Off P S dS T dR) (o3 : Off P S dS T tt) :
    CellV w (fresh P S dS T all) (stored kvs (n + 1) (.ref tt)) (.ref R) (.int (wth t p) k) :=
  .inr (.inr (.inr ⟨n + 1, tt, v, k0, nn, t, p, k, ⟨R, dR, k1, k2, k3, k4, rfl, fresh_mem m1 o1, fresh_mem m2 o2⟩, by rw [tb_at hTb, if_pos rfl], fresh_mem m3 o3, h.mono (fresh_sub sub n1 n2 n3 n4), rfl⟩))
end
theorem ext_refl {kvs : List (Int × Value)} : ∀ i x, valueAt kvs i = some x → valueAt kvs i = some x := fun _ _ h => h
theorem ext_stored {kvs : List (Int × Value)} {n : Int} {v : Value} (h : Tb kvs n) : ∀ i x, valueAt kvs i = some x → valueAt (stored kvs (n + 1) v) i = some x := fun i x e => by
  rw [tb_at h]
  by_cases q : i = n + 1
  · subst q; rw [h.none (by omega)] at e; cases e
  · rw [if_neg q]; exact e
inductive NumberPost (w : World) (P C T : Addr) (spot n : Int) (kvs : List (Int × Value)) (nw : Led) (r : Value) : Prop
  | mk : ∀ spot' left' n' k1' k2' oT' kvs' n2 A pr v wv nn, nw = (P, penO C spot' left' k1' k2' n') :: (T, oT') :: A → r = .ref pr → (pr, tupO #[v, wv] nn) ∈ A → CellV w A kvs' v wv → oT'.IsDictOf (intKind PW w) kvs' → Tb kvs' n2 → n ≤ n2 → n2 ≤ n + 1 → (∀ i x, valueAt kvs i = some x → valueAt kvs' i = some x) → 0 ≤ spot' → spot' ≤ spot + 4 → 0 ≤ left' → (∀ q ∈ A, q.1 ≠ P ∧ q.1 ≠ T) → NumberPost w P C T spot n kvs nw r
theorem number_end {w : World} {base : Heap} {outer : List Env} {s : Shared} {g h' : Heap} {L P C S dS T T2 pr : Addr} {m : Str → Option Value} {all : Led} {tk nn n' np : Nat} {k1 k2 k3 k4 k1' k2' : Tok} {spot left spot' left' n n2 : Int} {oT oT' : Obj} {kvs kvs' : List (Int × Value)} {v wv : Value}
    (G : Ground s [(P, penO C spot left k1 k2 nn), (S, instObj 405 dS), (dS, shD w k3 k4 T T2), (T, oT)] g) (hl : LedOk base outer s.heap [(P, penO C spot left k1 k2 nn), (S, instObj 405 dS), (dS, shD w k3 k4 T T2), (T, oT)]) (F : Fr g L h' m) (N : News g L h' all)
    (m0 : (P, penO C spot' left' k1' k2' n') ∈ all) (m1 : (S, instObj 405 dS) ∈ all) (m2 : (dS, shD w k3 k4 T T2) ∈ all) (m3 : (T, oT') ∈ all) (mp : (pr, tupO #[v, wv] np) ∈ all) (op : Off P S dS T pr) (hd : oT'.IsDictOf (intKind PW w) kvs') (hTb : Tb kvs' n2)
    (hext : ∀ i x, valueAt kvs i = some x → valueAt kvs' i = some x) (hc : CellV w (fresh P S dS T all) kvs' v wv) (q1 : n ≤ n2) (q2 : n2 ≤ n + 1) (q3 : 0 ≤ spot') (q4 : spot' ≤ spot + 4) (q5 : 0 ≤ left') :
    Ok s [P, T] (NumberPost w P C T spot n kvs) (.ref pr) { s with heap := h', toks := tk } := by
  refine ⟨h', tk, (P, penO C spot' left' k1' k2' n') :: (T, oT') :: fresh P S dS T all, rfl, keep_of G hl F N (fun q hq hne => ?_), fun q hq => ?_, spot', left', n', k1', k2', oT', kvs', n2, _, pr, v, wv, np, rfl, rfl, fresh_mem mp op, hc, hd, hTb, q1, q2, hext, q3, q4, q5, fun q hq => ?_⟩
  · simp only [List.mem_cons, List.not_mem_nil, or_false, not_or] at hne
    rcases List.mem_cons.mp hq with rfl | hq
    · exact absurd rfl hne.1
    · rcases List.mem_cons.mp hq with rfl | hq
      · exact m1
      · rcases List.mem_cons.mp hq with rfl | hq
        · exact m2
        · rw [List.mem_singleton.mp hq] at hne; exact absurd rfl hne.2
  · rcases List.mem_cons.mp hq with rfl | hq
    · exact ⟨(N _ m0).1, .inr (.head _)⟩
    · rcases List.mem_cons.mp hq with rfl | hq
      · exact ⟨(N _ m3).1, .inr (.tail _ (.head _))⟩
      · obtain ⟨h1, h2⟩ := List.mem_filter.mp hq
        have h3 := of_decide_eq_true h2
        exact ⟨(N _ h1).1, .inl (new_of G N h1 (by simp only [List.map_cons, List.map_nil, List.mem_cons, List.not_mem_nil, or_false, not_or]; exact h3)).2⟩
  · have h3 := of_decide_eq_true (List.mem_filter.mp hq).2
    exact ⟨h3.1, h3.2.2.2⟩
section
theorem rg_Number87 : True := by
  (k_with "exec For Name Call cons nil" => ((k_here; (rename Fr _ _ _ _ => lF'); (with_unfolding_all refine' For_invVF lF' ?k1z1 ?k2z1 ?_; (case k1z1 => exact rfl); (case k2z1 => exact rfl); k_whole))))
  (k_with "exec For Name Subscript cons nil" => ((k_here; (rename Fr _ _ _ _ => lF'); (with_unfolding_all refine' For_invVF lF' ?k1z2 ?k2z2 ?_; (case k1z2 => exact rfl); (case k2z2 => exact rfl); k_whole))))
  (k_with "k_all" => (exact tail_ne (by assumption) (by k_mem)))
  (k_with "call ref" => ((k_here; (with_reducible show wpAny _ _ (call (Value.ref 457) _) _ _ _); k_dflt (refine' use_draw ?Wz4 ?Bz4 ?Fz4 ?Nz4 ?hkz4 ?a1z4 ?Uz4 ?hCz4 ?hCPz4 ?hIz4 ?hlz4 ?hs0z4 ?hs1z4 ?hl0z4 ?hm0z4 ?hm1z4 ?_; (case Fz4 => k_asm); (case Nz4 => k_asm); (case Wz4 => assumption); (case Bz4 => assumption); (case Uz4 => k_updF); (case a1z4 => exact ⟨rfl, le_of_ble rfl, rfl, le_of_ble rfl⟩); (case hkz4 => exact ⟨rfl, rfl⟩); (case hCz4 => first | assumption | exact stays_list (Fr.keep (by assumption)) (by assumption)); (case hCPz4 => assumption); (case hIz4 => assumption); (case hlz4 => assumption); (case hs0z4 => omega); (case hs1z4 => omega); (case hl0z4 => omega); (case hm0z4 => first | decide | omega); (case hm1z4 => first | decide | omega)); intro _ _ _ _ _ _ _ _ _ _ N'; (try dsimp only at N'); revert N'; intro _ _ _ _ _ _; (try k_sweep))))
  (k_with "call ref" => ((k_here; (with_reducible show wpAny _ _ (call (Value.ref 376) _) _ _ _); k_dflt (refine' use_add ?Wz5 ?Bz5 ?Fz5 ?Nz5 ?hkz5 ?a1z5 ?Uz5 ?m1z5 ?m2z5 ?hnez5 ?hdz5 ?loz5 ?hTz5 ?hn0z5 ?hnz5 ?_; (case Fz5 => k_asm); (case Nz5 => k_asm); (case Wz5 => assumption); (case Bz5 => assumption); (case m1z5 => k_mem); (case m2z5 => k_mem); (case Uz5 => k_updF); (case a1z5 => exact ⟨rfl, le_of_ble rfl, rfl, le_of_ble rfl⟩); (case hkz5 => exact ⟨rfl, rfl⟩); (case hnez5 => exact ⟨by assumption, by assumption, by assumption⟩); (case hdz5 => assumption); (case loz5 => assumption); (case hTz5 => assumption); (case hn0z5 => omega); (case hnz5 => omega)); intro _ _ _ _ _ _ _ _ _ _ _ _ _ N'; (try dsimp only at N'); revert N'; intro _ _ _ ne'; (have nA' := ne'); (try k_sweep))))
  (k_with "call ref" => ((k_here; (with_reducible show wpAny _ _ (call (Value.ref 155) _) _ _ _); k_dflt (refine' use_dec ?Wz6 ?Bz6 ?Fz6 ?Xz6 ?Nz6 ?hkz6 ?a1z6 ?b1z6 ?b2z6 ?b3z6 ?b4z6 ?_; (case Fz6 => k_asm); (case Xz6 => k_asm); (case Nz6 => k_asm); (case Wz6 => assumption); (case Bz6 => assumption); (case a1z6 => exact ⟨rfl, le_of_ble rfl, rfl, le_of_ble rfl⟩); (case hkz6 => exact ⟨rfl, rfl⟩); (case b1z6 => omega); (case b2z6 => omega); (case b3z6 => omega); (case b4z6 => omega)); intro _ _ _ _ _ _ _ _ _ _ _ _ l1; (try k_lt l1); revert l1; intro _ l2; (try k_lt2 l2); revert l2; intro _ _ _ _ _ _; (try k_sweep))))
  (k_with "call ref" => ((k_here; (with_reducible show wpAny _ _ (call (Value.ref 218) _) _ _ _); k_dflt (refine' use_name ?Wz7 ?Bz7 ?Fz7 ?Xz7 ?Nz7 ?hkz7 ?a1z7 ?_; (case Fz7 => k_asm); (case Xz7 => k_asm); (case Nz7 => k_asm); (case Wz7 => assumption); (case Bz7 => assumption); (case a1z7 => exact ⟨rfl, le_of_ble rfl, rfl, le_of_ble rfl⟩); (case hkz7 => exact ⟨rfl, rfl⟩)); intro _ _ _ _ _ _ _ l1; (try k_lt l1); revert l1; intro _ l2; (try k_lt2 l2); revert l2; intro _; (try k_sweep))))
  (k_with "call ref" => ((k_here; (with_reducible show wpAny _ _ (call (Value.ref 240) _) _ _ _); k_dflt (refine' use_string ?Wz8 ?Bz8 ?Fz8 ?Xz8 ?Nz8 ?hkz8 ?a1z8 ?_; (case Fz8 => k_asm); (case Xz8 => k_asm); (case Nz8 => k_asm); (case Wz8 => assumption); (case Bz8 => assumption); (case a1z8 => exact ⟨rfl, le_of_ble rfl, rfl, le_of_ble rfl⟩); (case hkz8 => exact ⟨rfl, rfl⟩)); intro _ _ _ _ _ _ _ l1; (try k_lt l1); revert l1; intro _ l2; (try k_lt2 l2); revert l2; intro _; (try k_sweep))))
  (k_with "call ref" => ((k_here; (with_reducible show wpAny _ _ (call (Value.ref 289) _) _ _ _); k_dflt (refine' use_ref ?Wz9 ?Bz9 ?Fz9 ?Xz9 ?Nz9 ?hkz9 ?a1z9 ?_; (case Fz9 => k_asm); (case Xz9 => k_asm); (case Nz9 => k_asm); (case Wz9 => assumption); (case Bz9 => assumption); (case a1z9 => exact ⟨rfl, le_of_ble rfl, rfl, le_of_ble rfl⟩); (case hkz9 => exact ⟨rfl, rfl⟩)); intro _ _ _ _ _ _ _ _ _ _ l1; (try k_lt l1); revert l1; intro _ l2; (try k_lt2 l2); revert l2; intro _; (try k_sweep))))
  (k_with "call ref" => ((k_here; (with_reducible show wpAny _ _ (call (Value.ref 464) _) _ _ _); k_dflt (refine' use_pick ?Wz10 ?Bz10 ?Fz10 ?Nz10 ?hkz10 ?a1z10 ?Uz10 ?mlz10 ?hCz10 ?hCPz10 ?hnez10 ?hIz10 ?hlz10 ?hs0z10 ?hs1z10 ?hl0z10 ?_; (case Fz10 => k_asm); (case Nz10 => k_asm); (case Wz10 => assumption); (case Bz10 => assumption); (case Uz10 => k_updF); (case mlz10 => k_mem); (case a1z10 => exact ⟨rfl, le_of_ble rfl, rfl, le_of_ble rfl⟩); (case hkz10 => exact ⟨rfl, rfl⟩); (case hCz10 => first | assumption | exact stays_list (Fr.keep (by assumption)) (by assumption)); (case hCPz10 => assumption); (case hnez10 => k_ne); (case hIz10 => assumption); (case hlz10 => assumption); (case hs0z10 => omega); (case hs1z10 => omega); (case hl0z10 => omega)); intro _ _ _ _ _ _ _ _ _ N'; (try dsimp only at N'); revert N'; intro _ _ _ _ _; (try k_sweep))))
  trivial
local macro_rules | `(tactic| k_lt $h:ident) => `(tactic| replace $h := allLt_of $h)
variable {w : World} {p : Program} {loose : List Str} {mean : ExcName → Option Value} {mg mb : Str → Option Value} {base : Heap} {outer : List Env} {s : Shared} {dp un : Nat} {gd : Option (List Code)}
theorem rg_Number90 : True := by
  (k_with "k_ne" => (((try dsimp only); k_dflt (first | with_reducible assumption | with_reducible exact Ne.symm (by with_reducible assumption) | (refine' ne_all ?hz11 ?mz11; (case hz11 => with_reducible assumption); (case mz11 => k_mem)) | (refine' ne_all' ?hz11 ?mz11; (case hz11 => with_reducible assumption); (case mz11 => k_mem)) | (refine' ne_m1 ?hz11 ?mz11; (case hz11 => with_reducible assumption); (case mz11 => k_mem)) | (refine' ne_m2 ?hz11 ?mz11; (case hz11 => with_reducible assumption); (case mz11 => k_mem)) | (refine' ne_m3 ?hz11 ?mz11; (case hz11 => with_reducible assumption); (case mz11 => k_mem)) | (refine' ne_m1' ?hz11 ?mz11; (case hz11 => with_reducible assumption); (case mz11 => k_mem)) | (refine' ne_m2' ?hz11 ?mz11; (case hz11 => with_reducible assumption); (case mz11 => k_mem)) | (refine' ne_m3' ?hz11 ?mz11; (case hz11 => with_reducible assumption); (case mz11 => k_mem)) | (refine' ne_l ?hz11; with_reducible assumption) | (refine' ne_g ?hz11; with_reducible assumption) | (refine' ne_all2 ?gz11 ?hz11 ?mz11; (case gz11 => with_reducible assumption); (case hz11 => with_reducible assumption); (case mz11 => k_mem)) | (refine' ne_all2' ?gz11 ?hz11 ?mz11; (case gz11 => with_reducible assumption); (case hz11 => with_reducible assumption); (case mz11 => k_mem)) | (refine' ne_s1 ?hz11 ?mz11; (case hz11 => with_reducible assumption); (case mz11 => k_mem)) | (refine' ne_s2 ?hz11 ?mz11; (case hz11 => with_reducible assumption); (case mz11 => k_mem)) | (refine' ne_s1' ?hz11 ?mz11; (case hz11 => with_reducible assumption); (case mz11 => k_mem)) | (refine' ne_s2' ?hz11 ?mz11; (case hz11 => with_reducible assumption); (case mz11 => k_mem)) | exact ne_ss | exact ne_ss' | ((try simp only [AllLt, and_true] at *); refine neN ?_; omega)))))
  (k_with "binaryOp Pow int int" => ((k_here; (with_reducible refine pow_ex ?haz12 ?hXz12 ?hbz12 ?hYz12 ?_); (case haz12 => decide); (case hXz12 => decide); (case hbz12 => omega); (case hYz12 => omega))))
  (k_with "binaryOp Mult int int" => ((k_here; (with_reducible refine mul_linL ?haz13 ?hbz13 ?_); (case haz13 => omega); (case hbz13 => omega))))
  (k_with "execs cons" => ((k_here; (with_reducible show wpAny _ _ (execs (Stmt.Assign [Expr.Tuple _ _ _] (Expr.IfExp _ _ _ _) _ :: _) _) _ _ _); k_dflt (refine' join_num ?Fz14 ?Nz14 ?h1z14 ?h2z14; (case Fz14 => k_asm); (case Nz14 => k_asm)); rotate_left; (intro _ _ _ _ _ _ _ _ N'; (try simp only [List.cons_append, List.nil_append] at N'); revert N'; intro _ _ _; (try k_sweep)); rotate_left)))
  trivial
set_option maxRecDepth 100000
set_option maxHeartbeats 8000000
theorem number_ok {P C S dS T T2 : Addr} {spot left n : Int} {k1 k2 k3 k4 : Tok} {nn : Nat} {oT : Obj} {kvs : List (Int × Value)} {vs : List Value} {ns : List Int} (hdp : dp ≤ 540) (hun : un ≤ 4700) (Cc : Cx w p loose mean mg mb base outer s.heap)
    (hl : LedOk base outer s.heap [(P, penO C spot left k1 k2 nn), (S, instObj 405 dS), (dS, shD w k3 k4 T T2), (T, oT)]) (hC : s.heap.IsList C vs.toArray) (hCP : C ≠ P) (hCn : C ∉ [P, S, dS, T])
    (hI : IntsAre vs ns) (hlen : ns.length ≤ 63) (hs0 : 0 ≤ spot) (hs1 : spot ≤ 90000) (hl0 : 0 ≤ left)
    (hne0 : P ≠ S ∧ P ≠ dS ∧ P ≠ T) (hne : S ≠ dS ∧ S ≠ T ∧ dS ≠ T) (hd : oT.IsDictOf (intKind PW w) kvs) (lo : (T == sysModules) = false) (hTb : Tb kvs n) (hn0 : 0 ≤ n) (hn : n ≤ 90) :
    wpAny (model PW w) (kA dp un gd outer) (call (.ref 471) [.ref P, .ref S]) (Ok s [P, T] (NumberPost w P C T spot n kvs)) Never s := by
  refine wpAny_le (dp' := 540) (un' := 4700) ?_ hdp hun
  refine wpAny_call ?_
  have W' := Cc.W
  obtain ⟨hne1, hne2, hne3⟩ := hne
  obtain ⟨hne4, hne5, hne6⟩ := hne0
  replace hne1 := neN hne1; replace hne2 := neN hne2; replace hne3 := neN hne3; replace hne4 := neN hne4; replace hne5 := neN hne5; replace hne6 := neN hne6
  k_dflt (refine' enter (led := [(P, penO C spot left k1 k2 nn), (S, instObj 405 dS), (dS, shD w k3 k4 T T2), (T, oT)]) Cc hl ?k6 ?k7 ?k8 ?k9 ?kB ?_ ?c2 ?c3 ?c4 ?c5; (case k6 => k_is); (case k7 => k_is); (case k8 => decide); (case k9 => exact BindsTo.of_eq rfl); (case c5 => decide); (case kB => exact locs rfl); (case c2 => exact rfl); (case c3 => exact rfl); (case c4 => exact rfl))
  intro g L' h' G hL' F' N' B' X' T'
  have hC' : g.IsList C vs.toArray := isList_ground G hC (by simpa using hCn)
  clear hC
  (try dsimp only); (try k_fold)
  repeat' (first | (k_end; exact mid_int (by assumption) (by assumption) (fun q hq => by repeat (first | exact hq | refine List.Mem.tail _ ?_)) (by omega) (by omega)) | (k_end; exact mid_dec (by assumption) (by assumption) (fun q hq => by repeat (first | exact hq | refine List.Mem.tail _ ?_)) (by k_mem) (by k_mem) (by assumption) (by omega) (by omega) (by omega) (by omega) (by k_all) (by k_all)) | (k_end; exact number_end G hl (by assumption) (by assumption) (by k_mem) (by k_mem) (by k_mem) (by k_mem) (by k_mem) ⟨by k_ne, by k_ne, by k_ne, by k_ne⟩ (by assumption) (by assumption) ext_refl (cell_ref (by k_mem) (by k_mem) ⟨by k_ne, by k_ne, by k_ne, by k_ne⟩ ⟨by k_ne, by k_ne, by k_ne, by k_ne⟩) (by omega) (by omega) (by omega) (by omega) (by omega)) | (k_end; exact number_end G hl (by assumption) (by assumption) (by k_mem) (by k_mem) (by k_mem) (by k_mem) (by k_mem) ⟨by k_ne, by k_ne, by k_ne, by k_ne⟩ (by assumption) (by assumption) ext_refl (cell_bad (by assumption) (by k_mem) (by k_mem) (by k_mem) (by k_mem) (by k_mem) ⟨by k_ne, by k_ne, by k_ne, by k_ne⟩ ⟨by k_ne, by k_ne, by k_ne, by k_ne⟩ ⟨by k_ne, by k_ne, by k_ne, by k_ne⟩ ⟨by k_ne, by k_ne, by k_ne, by k_ne⟩ ⟨by k_ne, by k_ne, by k_ne, by k_ne⟩) (by omega) (by omega) (by omega) (by omega) (by omega)) | (k_end; exact number_end G hl (by assumption) (by assumption) (by k_mem) (by k_mem) (by k_mem) (by k_mem) (by k_mem) ⟨by k_ne, by k_ne, by k_ne, by k_ne⟩ (by assumption) (by assumption) (ext_stored (by assumption)) (cell_tab (by assumption) (fun q hq => by repeat (first | exact hq | refine List.Mem.tail _ ?_)) (tail_ne (by assumption) (by k_mem)) (tail_ne (by assumption) (by k_mem)) (tail_ne (by assumption) (by k_mem)) (tail_ne (by assumption) (by k_mem)) (by assumption) (by k_mem) (by k_mem) (by k_mem) ⟨by k_ne, by k_ne, by k_ne, by k_ne⟩ ⟨by k_ne, by k_ne, by k_ne, by k_ne⟩ ⟨by k_ne, by k_ne, by k_ne, by k_ne⟩) (by omega) (by omega) (by omega) (by omega) (by omega)) | (k_end; exact number_end G hl (by assumption) (by assumption) (by k_mem) (by k_mem) (by k_mem) (by k_mem) (by k_mem) ⟨by k_ne, by k_ne, by k_ne, by k_ne⟩ (by assumption) (by assumption) ext_refl (cell_num (by assumption) (fun q hq => by repeat (first | exact hq | refine List.Mem.tail _ ?_)) (tail_ne (by assumption) (by k_mem)) (tail_ne (by assumption) (by k_mem)) (tail_ne (by assumption) (by k_mem)) (tail_ne (by assumption) (by k_mem))) (by omega) (by omega) (by omega) (by omega) (by omega)) | (k_unfold; (try dsimp only)) | walk1 | (dsimp only; walk1) | fail "no step")
  all_goals w_report
end
end
section
theorem rg_Comp : True := by
  k_with_none
  (k_with "omA" => (first | (with_reducible (first | exact And.left ‹_› | exact And.left (And.right ‹_›) | exact And.left (And.right (And.right ‹_›)) | exact And.left (And.right (And.right (And.right ‹_›))) | exact And.left (And.right (And.right (And.right (And.right ‹_›)))) | exact And.left (And.right (And.right (And.right (And.right (And.right ‹_›))))) | exact And.left (And.right (And.right (And.right (And.right (And.right (And.right ‹_›)))))) | exact And.left (And.right (And.right (And.right (And.right (And.right (And.right (And.right ‹_›))))))) | exact And.left (And.right (And.right (And.right (And.right (And.right (And.right (And.right (And.right ‹_›)))))))) | exact And.left (And.right (And.right (And.right (And.right (And.right (And.right (And.right (And.right (And.right ‹_›))))))))) | exact And.left (And.right (And.right (And.right (And.right (And.right (And.right (And.right (And.right (And.right (And.right ‹_›)))))))))) | exact And.left (And.right (And.right (And.right (And.right (And.right (And.right (And.right (And.right (And.right (And.right (And.right ‹_›))))))))))) | exact And.left (And.right (And.right (And.right (And.right (And.right (And.right (And.right (And.right (And.right (And.right (And.right (And.right ‹_›)))))))))))) | exact And.left (And.right (And.right (And.right (And.right (And.right (And.right (And.right (And.right (And.right (And.right (And.right (And.right (And.right ‹_›))))))))))))) | exact And.left (And.right (And.right (And.right (And.right (And.right (And.right (And.right (And.right (And.right (And.right (And.right (And.right (And.right (And.right ‹_›)))))))))))))) | exact And.left (And.right (And.right (And.right (And.right (And.right (And.right (And.right (And.right (And.right (And.right (And.right (And.right (And.right (And.right (And.right ‹_›))))))))))))))) | exact And.left (And.right (And.right (And.right (And.right (And.right (And.right (And.right (And.right (And.right (And.right (And.right (And.right (And.right (And.right (And.right (And.right ‹_›)))))))))))))))) | exact And.right ‹_› | exact And.right (And.right ‹_›) | exact And.right (And.right (And.right ‹_›)) | exact And.right (And.right (And.right (And.right ‹_›))) | exact And.right (And.right (And.right (And.right (And.right ‹_›)))))) | fail))
  (k_with "omC" => (first | decide | fail))
  (k_with "omU" => (first | (k_extra "omC") | (with_reducible (first | exact o_le ‹_› (by decide) | exact o_lel ‹_› (by decide) | exact o_mul ‹_› (by decide) (by decide) | exact o_mull ‹_› (by decide) (by decide))) | ((with_reducible refine o_chl ‹_› ?_); k_extra "omU") | ((with_reducible refine o_addc ?_); k_extra "omU") | ((with_reducible refine o_subc ?_); k_extra "omU") | ((with_reducible refine o_subv ‹_› ?_); k_extra "omU") | ((with_reducible refine o_add2 ‹_› ?_); k_extra "omU") | ((with_reducible refine o_add2l ‹_› ?_); k_extra "omU") | ((with_reducible refine o_addl ?_); k_extra "omU") | ((with_reducible refine o_addm ‹_› (by decide) ?_); k_extra "omU") | fail))
  (k_with "omL" => (first | (k_extra "omC") | (with_reducible (first | exact o_ge ‹_› (by decide) | exact o_gel ‹_› (by decide) | exact o_gmul ‹_› (by decide) (by decide))) | ((with_reducible refine o_gaddc ?_); k_extra "omL") | ((with_reducible refine o_gsubc ?_); k_extra "omL") | ((with_reducible refine o_gsubv ‹_› ?_); k_extra "omL") | ((with_reducible refine o_gsubvl ‹_› ?_); k_extra "omL") | ((with_reducible refine o_gadd2 ‹_› ?_); k_extra "omL") | ((with_reducible refine o_gaddl ?_); k_extra "omL") | ((with_reducible refine o_gaddm ‹_› (by decide) ?_); k_extra "omL") | fail))
  (k_with "omR" => (first | (with_reducible (first | exact o_self (by decide))) | ((with_reducible refine o_ch ‹_› ?_); k_extra "omR") | ((with_reducible refine o_addch ?_); k_extra "omR") | fail))
  (k_with "omZ" => (first | (k_extra "omR") | (k_extra "omU") | (k_extra "omL") | fail))
  (k_with "omX" => (first | decide | (k_extra "omZ") | (with_reducible (first | exact Int.le_refl _ | exact Nat.le_refl _ | exact o_nle ‹_› (by decide) | exact o_nlt ‹_› (by decide) | exact o_nlel ‹_› (by decide))) | ((with_reducible refine o_ltc ?_); k_extra "omZ") | ((with_reducible refine o_gtc ?_); k_extra "omZ") | (with_reducible (first | exact o_iffn ‹_› ‹_› | exact o_neql ‹_› (by decide) | exact o_neqi ‹_› (by decide))) | ((with_reducible show _ < _); (first | (with_reducible exact Iff.mp ‹_› ‹_›) | k_extra "omA")) | ((repeat (rename _ ≠ _ => hz; clear hz)); (repeat (rename _ ≠ _ ∧ _ => hz; clear hz)); omega +splitDisjunctions) | fail))
  (k_with "omN" => (first | (with_reducible (first | exact o_n1 | exact o_n1' | exact o_ne ‹_› | exact o_ne' ‹_› | exact o_lt ‹_› | exact o_gt ‹_› | exact o_ne (by k_extra "omA") | exact o_ne' (by k_extra "omA") | exact o_lt (by k_extra "omA") | exact o_gt (by k_extra "omA") | exact o_lts1 (by k_extra "omA") | exact o_lts1' (by k_extra "omA") | exact o_lts2 (by k_extra "omA") | exact o_lts2' (by k_extra "omA") | exact o_gt2 ‹_› (by k_extra "omA") | exact o_lt2 ‹_› (by k_extra "omA"))) | fail))
  (k_with "om" => (first | with_reducible assumption | ((first | (with_reducible show _ ≤ _) | (with_reducible show _ < _)); k_extra "omX") | ((with_reducible show _ = _ → False); k_extra "omN") | fail))
  trivial
open PySem PySem.W PyProof.Rows PySem.Calls PyProof.Rows.LCg
section
variable {prog : Program} {w : World} {A : Around} {E : Value → Shared → Prop} {s : Shared} {h₀ : Heap} {L : Addr} {m : Str → Option Value} {env : Env}
theorem cend_mono {s₁ s₂ : Shared} {I C D : Addr} {oI oC oD : Obj} {S : Led → Prop} {rest rest' : Value → Led → Prop} {y : Value} (h : CompEnd h₀ L m s₁ I oI C oC D oD S rest y s₂) (k : ∀ nw, rest y nw → rest' y nw) : CompEnd h₀ L m s₁ I oI C oC D oD S rest' y s₂ := by
  obtain ⟨h', tk, nw, e, F, N, off, hS, r⟩ := h
  exact ⟨h', tk, nw, e, F, N, off, hS, k _ r⟩
theorem comp_inv {elt : Expr} {x : Str} {scope : Scope} {cl : List (Str × Addr)} {S : Led → Prop} {P : Nat → Value → Prop} {Fin : List Value → Led → Prop} {n : Nat} (Inv : Nat → List Value → Led → Prop)
    (step : ∀ i ys news v I oI C oC D m₂ h tk (E' : Value → Shared → Prop), i < n → Inv i ys news → P i v → NsObj oC m₂ → m₂ x = some v → Fr h₀ L h m → News h₀ L h ((I, oI) :: (C, oC) :: (D, lst ys) :: news) → Off3 I C D news → ((@Ne Nat I C) ∧ (@Ne Nat I D) ∧ (@Ne Nat C D)) →
      wpAny (model prog w) A (eval elt (compEnvC scope cl C env)) (CompEnd h₀ L m { s with heap := h, toks := tk } I oI C oC D (lst ys) S (fun y news' => Inv (i + 1) (ys ++ [y]) news')) E' { s with heap := h, toks := tk })
    (fin : ∀ ys news, Inv n ys news → Fin ys news) : ∀ (k i : Nat) (ys : List Value) (news : Led), k + i = n → Inv i ys news → CompRest prog w A h₀ L m env elt x scope cl s S P Fin k i ys news
  | 0, i, ys, news, e, h => fin ys news (by rw [← show i = n by omega]; exact h)
  | k + 1, i, ys, news, e, h => by
    refine CompRest.succ fun v I oI C oC D m₂ h' tk E' a1 a2 a3 a4 a5 a6 a7 => ?_
    refine wpAny_mono (step i ys news v I oI C oC D m₂ h' tk E' (by omega) h a1 a2 a3 a4 a5 a6 a7) (fun y s₂ z => cend_mono z fun nw r => comp_inv Inv step fin k (i + 1) _ _ (by omega) r) fun _ _ z => z
end
theorem comp_map {prog : Program} {w : World} {A : Around} {s : Shared} {h₀ : Heap} {L : Addr} {m : Str → Option Value} {env : Env} {elt : Expr} {x : Str} {scope : Scope} {cl : List (Str × Addr)} {S : Led → Prop} {P : Nat → Value → Prop} {Fin : List Value → Led → Prop} {n : Nat} {N0 : Led} (f : List Value) (hf : f.length = n)
    (step : ∀ i ys v y I oI C oC D m₂ h tk (E' : Value → Shared → Prop), P i v → f[i]? = some y → NsObj oC m₂ → m₂ x = some v → Fr h₀ L h m → News h₀ L h ((I, oI) :: (C, oC) :: (D, lst ys) :: N0) → Off3 I C D N0 → ((@Ne Nat I C) ∧ (@Ne Nat I D) ∧ (@Ne Nat C D)) →
      wpAny (model prog w) A (eval elt (compEnvC scope cl C env)) (CompEnd h₀ L m { s with heap := h, toks := tk } I oI C oC D (lst ys) S (fun y' news' => y' = y ∧ news' = N0)) E' { s with heap := h, toks := tk })
    (fin : Fin f N0) : CompRest prog w A h₀ L m env elt x scope cl s S P Fin n 0 [] N0 := by
  refine comp_inv (fun i ys nw => nw = N0 ∧ ys = f.take i) ?_ ?_ n 0 [] N0 (Nat.add_zero _) ⟨rfl, rfl⟩
  · rintro i ys news v I oI C oC D m₂ h tk E' hi ⟨rfl, rfl⟩ a1 a2 a3 a4 a5 a6 a7
    have hlt : i < f.length := by omega
    refine wpAny_mono (step i _ v f[i] I oI C oC D m₂ h tk E' a1 (List.getElem?_eq_getElem hlt) a2 a3 a4 a5 a6 a7) (fun y s₂ z => cend_mono z ?_) fun _ _ z => z
    rintro nw ⟨rfl, rfl⟩
    exact ⟨rfl, by first | exact (List.take_succ_eq_append_getElem hlt).symm | exact (List.take_append_getElem hlt) | simp⟩
  · rintro ys news ⟨rfl, rfl⟩
    rw [← hf, List.take_length]
    exact fin
theorem eqg_none : MeetsSeq.EqGives .none .none true := fun _ _ _ _ _ _ h => by
  unfold eqBool
  refine wpAny_holding ?_
  rw [if_pos (by decide)]
  exact wpAny_bind (wpAny_rule (wpAny_pure h))
theorem eqg_int {a : Int} {t : Tok} : MeetsSeq.EqGives (.int a t) .none false := fun prog w A E s Q h => by
  unfold eqBool
  refine wpAny_holding ?_
  rw [if_neg (fun z => by cases eq_of_beq z)]
  refine wpAny_bind ?_
  exact PySem.EqNone.eq_int_none (wpAny_truthy_bool h)
theorem in_none {prog : Program} {w : World} {A : Around} {E : Value → Shared → Prop} {s : Shared} {h₀ : Heap} {L l : Addr} {news : Led} {ws : List Value} {n : Nat} {Q : Value → Shared → Prop} {b : Bool} (N : News h₀ L s.heap news) (hm : (l, listOf ws.toArray n) ∈ news)
    (hw : ∀ v ∈ ws, v = .none ∨ ∃ i t, v = .int i t) (hb : (ws.any fun v => match v with | .none => true | _ => false) = b) (h : Q (.bool b) s) : wpAny (model prog w) A (compareOp .In .none (.ref l)) Q E s := by
  refine PySem.SeqRoads2.in_list (items := ws.toArray) (n := n) (fun v => match v with | .none => true | _ => false) (fun y hy => ?_) (N _ hm).1 ?_
  · rcases hw y (by simpa using hy) with rfl | ⟨i, t, rfl⟩
    · exact eqg_none
    · exact eqg_int
  · rw [List.any_toArray, hb]; exact h
inductive Cells (w : World) (A : Led) (kvs : List (Int × Value)) : List Value → List Value → Prop
  | nil : Cells w A kvs [] []
  | cons {v wv : Value} {vs ws : List Value} : CellV w A kvs v wv → Cells w A kvs vs ws → Cells w A kvs (v :: vs) (wv :: ws)
inductive PairsAt (w : World) (A : Led) (kvs : List (Int × Value)) : List Value → List Value → List Value → Prop
  | nil : PairsAt w A kvs [] [] []
  | cons {pr : Addr} {nn : Nat} {v wv : Value} {ys vs ws : List Value} : (pr, tupO #[v, wv] nn) ∈ A → CellV w A kvs v wv → PairsAt w A kvs ys vs ws → PairsAt w A kvs (.ref pr :: ys) (v :: vs) (wv :: ws)
section
variable {w : World} {A B : Led} {kvs kvs' : List (Int × Value)} {ys vs ws : List Value}
theorem Cells.mono (h : Cells w A kvs vs ws) (s : ∀ q ∈ A, q ∈ B) (hk : ∀ i x, valueAt kvs i = some x → valueAt kvs' i = some x) : Cells w B kvs' vs ws := by
  induction h with
  | nil => exact .nil
  | cons a _ ih => exact .cons (a.mono s hk) ih
theorem PairsAt.mono (h : PairsAt w A kvs ys vs ws) (s : ∀ q ∈ A, q ∈ B) (hk : ∀ i x, valueAt kvs i = some x → valueAt kvs' i = some x) : PairsAt w B kvs' ys vs ws := by
  induction h with
  | nil => exact .nil
  | cons m a _ ih => exact .cons (s _ m) (a.mono s hk) ih
theorem PairsAt.snoc {pr : Addr} {nn : Nat} {v wv : Value} (h : PairsAt w A kvs ys vs ws) (m : (pr, tupO #[v, wv] nn) ∈ A) (c : CellV w A kvs v wv) : PairsAt w A kvs (ys ++ [.ref pr]) (vs ++ [v]) (ws ++ [wv]) := by
  induction h with
  | nil => exact .cons m c .nil
  | cons m' a _ ih => exact .cons m' a ih
theorem PairsAt.cells (h : PairsAt w A kvs ys vs ws) : Cells w A kvs vs ws := by
  induction h with
  | nil => exact .nil
  | cons _ a _ ih => exact .cons a ih
theorem PairsAt.len (h : PairsAt w A kvs ys vs ws) : vs.length = ys.length ∧ ws.length = ys.length := by
  induction h with
  | nil => exact ⟨rfl, rfl⟩
  | cons _ _ _ ih => simp only [List.length_cons]; omega
theorem PairsAt.at (h : PairsAt w A kvs ys vs ws) : ∀ {i : Nat} {y : Value}, ys[i]? = some y → ∃ pr nn v wv, y = .ref pr ∧ (pr, tupO #[v, wv] nn) ∈ A ∧ vs[i]? = some v ∧ ws[i]? = some wv := by
  induction h with
  | nil => intro i y e; cases e
  | @cons pr nn v wv ys vs ws m c _ ih =>
    intro i y e
    cases i with
    | zero => rw [List.getElem?_cons_zero] at e; cases e; exact ⟨pr, nn, v, wv, rfl, m, rfl, rfl⟩
    | succ i => rw [List.getElem?_cons_succ] at e; simpa using ih e
theorem CellV.worth {v wv : Value} (h : CellV w A kvs v wv) : wv = .none ∨ ∃ i t, wv = .int i t := by
  rcases h with ⟨_, e⟩ | ⟨_, e⟩ | ⟨t, p, k, _, e⟩ | ⟨i, t, v', k0, nn, n, p, k, _, _, _, _, e⟩
  · exact .inl e
  · exact .inl e
  · exact .inr ⟨_, _, e⟩
  · exact .inr ⟨_, _, e⟩
theorem Cells.worth (h : Cells w A kvs vs ws) : ∀ x ∈ ws, x = .none ∨ ∃ i t, x = .int i t := by
  induction h with
  | nil => intro x hx; cases hx
  | cons a _ ih =>
    intro x hx
    rcases List.mem_cons.mp hx with rfl | hx
    · exact a.worth
    · exact ih x hx
end
theorem mem_led {news : Led} {P S dS T : Addr} {o1 o2 o3 o4 : Obj} {pre A : Led} (h : news = pre ++ (P, o1) :: (S, o2) :: (dS, o3) :: (T, o4) :: A) : (P, o1) ∈ news ∧ (S, o2) ∈ news ∧ (dS, o3) ∈ news ∧ (T, o4) ∈ news := by
  subst h
  refine ⟨?_, ?_, ?_, ?_⟩ <;> refine List.mem_append_right _ ?_
  · exact .head _
  · exact .tail _ (.head _)
  · exact .tail _ (.tail _ (.head _))
  · exact .tail _ (.tail _ (.tail _ (.head _)))
section
variable {w : World} {p : Program} {loose : List Str} {mean : ExcName → Option Value} {mg mb : Str → Option Value} {base : Heap} {outer : List Env} {s : Shared} {A A₀ : Around} {h₀ : Heap} {L : Addr} {m : Str → Option Value} {env : Env} {Q : Value → Shared → Prop} {E : Value → Shared → Prop}
structure Apart (P S dS T : Addr) : Prop where
  p1 : P ≠ S
  p2 : P ≠ dS
  p3 : P ≠ T
  s1 : S ≠ dS
  s2 : S ≠ T
  s3 : dS ≠ T
theorem use_number {P C S dS T T2 : Addr} {spot left n : Int} {k1 k2 k3 k4 : Tok} {nn : Nat} {oT : Obj} {kvs : List (Int × Value)} {vs : List Value} {ns : List Int} {pre Z : Led} (W : Wd w p loose mean mg mb base) (B : Below A₀ base outer h₀) (F : Fr h₀ L s.heap m)
    (N : News h₀ L s.heap (pre ++ (P, penO C spot left k1 k2 nn) :: (S, instObj 405 dS) :: (dS, shD w k3 k4 T T2) :: (T, oT) :: Z)) (hk : EnvAt env L) (a1 : At A (env :: outer) 540 4700) (hC : h₀.IsList C vs.toArray) (ap : Apart P S dS T) (hI : IntsAre vs ns) (hlen : ns.length ≤ 63)
    (hd : oT.IsDictOf (intKind PW w) kvs) (lo : (T == sysModules) = false) (hTb : Tb kvs n) (hn0 : 0 ≤ n) (hn : n ≤ 90) (hs0 : 0 ≤ spot) (hs1 : spot ≤ 90000) (hl0 : 0 ≤ left) (hZ : ∀ q ∈ Z, Off P S dS T q.1) (hpre : ∀ x ∈ pre, Off P S dS T x.1)
    (k : ∀ pr v wv np spot' left' n' k1' k2' oT' kvs' n2 Z' h' tk, Fr h₀ L h' m → News h₀ L h' (pre ++ (P, penO C spot' left' k1' k2' n') :: (S, instObj 405 dS) :: (dS, shD w k3 k4 T T2) :: (T, oT') :: Z') → (∀ q ∈ Z, q ∈ Z') → (∀ q ∈ Z', Off P S dS T q.1) →
      (∀ q ∈ Z', q ∈ Z ∨ ∀ x ∈ pre, x.1 ≠ q.1) → (pr, tupO #[v, wv] np) ∈ Z' → CellV w Z' kvs' v wv → oT'.IsDictOf (intKind PW w) kvs' → Tb kvs' n2 → n ≤ n2 → n2 ≤ n + 1 → (∀ i x, valueAt kvs i = some x → valueAt kvs' i = some x) → 0 ≤ spot' → spot' ≤ spot + 4 → 0 ≤ left' → Q (.ref pr) { s with heap := h', toks := tk }) :
    wpAny (model PW w) A (call (.ref 471) [.ref P, .ref S]) Q E s := by
  obtain ⟨mP, mS, mdS, mT⟩ := mem_led rfl (news := pre ++ (P, penO C spot left k1 k2 nn) :: (S, instObj 405 dS) :: (dS, shD w k3 k4 T T2) :: (T, oT) :: Z)
  have ne : ∀ {b : Addr} {o : Obj}, (b, o) ∈ pre ++ (P, penO C spot left k1 k2 nn) :: (S, instObj 405 dS) :: (dS, shD w k3 k4 T T2) :: (T, oT) :: Z → C ≠ b := fun hm z => by
    obtain ⟨o, ho, _⟩ := hC
    have := (N _ hm).2.2
    dsimp only at this
    rw [← z, ho] at this; cases this
  have c := call_le (number_ok (dp := 540) (un := 4700) (gd := A.guards) (Nat.le_refl _) (Nat.le_refl _) (cx_of W B F hk) (led_of (led := [(P, penO C spot left k1 k2 nn), (S, instObj 405 dS), (dS, shD w k3 k4 T T2), (T, oT)]) hk B F N (by simp only [List.forall_mem_cons]; exact ⟨mP, mS, mdS, mT, fun _ hq => nomatch hq⟩)) (stays_list F.keep hC) (ne mP)
    (by simp only [List.mem_cons, List.not_mem_nil, or_false, not_or]; exact ⟨ne mP, ne mS, ne mdS, ne mT⟩) hI hlen hs0 hs1 hl0 ⟨ap.p1, ap.p2, ap.p3⟩ ⟨ap.s1, ap.s2, ap.s3⟩ hd lo hTb hn0 hn) a1.h a1.d a1.f a1.u
  refine use_ok c F N (rest := pre ++ (S, instObj 405 dS) :: (dS, shD w k3 k4 T T2) :: Z) (fun q hq => ?_) (fun b hb => ?_) fun r h' tk nw F' N' hd' hp => ?_
  · simp only [List.mem_cons, List.not_mem_nil, or_false, not_or]
    rcases List.mem_append.mp hq with hq | hq
    · exact ⟨List.mem_append_left _ hq, (hpre q hq).1, (hpre q hq).2.2.2⟩
    · rcases List.mem_cons.mp hq with rfl | hq
      · exact ⟨mS, Ne.symm ap.p1, ap.s2⟩
      · rcases List.mem_cons.mp hq with rfl | hq
        · exact ⟨mdS, Ne.symm ap.p2, ap.s3⟩
        · exact ⟨List.mem_append_right _ (.tail _ (.tail _ (.tail _ (.tail _ hq)))), (hZ q hq).1, (hZ q hq).2.2.2⟩
  · rcases List.mem_cons.mp hb with rfl | hb
    · exact ⟨(N _ mP).2.2, (N _ mP).2.1⟩
    · rw [List.mem_singleton.mp hb]; exact ⟨(N _ mT).2.2, (N _ mT).2.1⟩
  · obtain ⟨spot', left', n', k1', k2', oT', kvs', n2, A', pr, v, wv, np, rfl, rfl, mp, hc, hd2, hTb2, q1, q2, hext, q3, q4, q5, hoff⟩ := hp
    have dn : ∀ q ∈ A', ∀ x ∈ pre ++ (S, instObj 405 dS) :: (dS, shD w k3 k4 T T2) :: Z, x.1 ≠ q.1 := fun q hq x hx => hd' q (.tail _ (.tail _ hq)) x hx
    refine k pr v wv np spot' left' n' k1' k2' oT' kvs' n2 (A' ++ Z) h' tk F' (fun q hq => ?_) (fun q hq => List.mem_append_right _ hq) (fun q hq => ?_) (fun q hq => ?_) (List.mem_append_left _ mp) (hc.mono (fun q hq => List.mem_append_left _ hq) fun _ _ e => e) hd2 hTb2 q1 q2 hext q3 q4 q5
    · rcases List.mem_append.mp hq with hq | hq
      · exact N' q (List.mem_append_right _ (List.mem_append_left _ hq))
      · rcases List.mem_cons.mp hq with rfl | hq
        · exact N' _ (List.mem_append_left _ (.head _))
        · rcases List.mem_cons.mp hq with rfl | hq
          · exact N' _ (List.mem_append_right _ (List.mem_append_right _ (.head _)))
          · rcases List.mem_cons.mp hq with rfl | hq
            · exact N' _ (List.mem_append_right _ (List.mem_append_right _ (.tail _ (.head _))))
            · rcases List.mem_cons.mp hq with rfl | hq
              · exact N' _ (List.mem_append_left _ (.tail _ (.head _)))
              · rcases List.mem_append.mp hq with hq | hq
                · exact N' _ (List.mem_append_left _ (.tail _ (.tail _ hq)))
                · exact N' _ (List.mem_append_right _ (List.mem_append_right _ (.tail _ (.tail _ hq))))
    · rcases List.mem_append.mp hq with hq | hq
      · exact ⟨(hoff q hq).1, Ne.symm (dn q hq _ (List.mem_append_right _ (.head _))), Ne.symm (dn q hq _ (List.mem_append_right _ (.tail _ (.head _)))), (hoff q hq).2⟩
      · exact hZ q hq
    · rcases List.mem_append.mp hq with hq | hq
      · exact .inr fun x hx => dn q hq x (List.mem_append_left _ hx)
      · exact .inl hq
end
end
section
theorem rg_LawBox : True := by
  k_with_none
  (k_with "omA" => (first | (with_reducible (first | exact And.left ‹_› | exact And.left (And.right ‹_›) | exact And.left (And.right (And.right ‹_›)) | exact And.left (And.right (And.right (And.right ‹_›))) | exact And.left (And.right (And.right (And.right (And.right ‹_›)))) | exact And.left (And.right (And.right (And.right (And.right (And.right ‹_›))))) | exact And.left (And.right (And.right (And.right (And.right (And.right (And.right ‹_›)))))) | exact And.left (And.right (And.right (And.right (And.right (And.right (And.right (And.right ‹_›))))))) | exact And.left (And.right (And.right (And.right (And.right (And.right (And.right (And.right (And.right ‹_›)))))))) | exact And.left (And.right (And.right (And.right (And.right (And.right (And.right (And.right (And.right (And.right ‹_›))))))))) | exact And.left (And.right (And.right (And.right (And.right (And.right (And.right (And.right (And.right (And.right (And.right ‹_›)))))))))) | exact And.left (And.right (And.right (And.right (And.right (And.right (And.right (And.right (And.right (And.right (And.right (And.right ‹_›))))))))))) | exact And.left (And.right (And.right (And.right (And.right (And.right (And.right (And.right (And.right (And.right (And.right (And.right (And.right ‹_›)))))))))))) | exact And.left (And.right (And.right (And.right (And.right (And.right (And.right (And.right (And.right (And.right (And.right (And.right (And.right (And.right ‹_›))))))))))))) | exact And.left (And.right (And.right (And.right (And.right (And.right (And.right (And.right (And.right (And.right (And.right (And.right (And.right (And.right (And.right ‹_›)))))))))))))) | exact And.left (And.right (And.right (And.right (And.right (And.right (And.right (And.right (And.right (And.right (And.right (And.right (And.right (And.right (And.right (And.right ‹_›))))))))))))))) | exact And.left (And.right (And.right (And.right (And.right (And.right (And.right (And.right (And.right (And.right (And.right (And.right (And.right (And.right (And.right (And.right (And.right ‹_›)))))))))))))))) | exact And.right ‹_› | exact And.right (And.right ‹_›) | exact And.right (And.right (And.right ‹_›)) | exact And.right (And.right (And.right (And.right ‹_›))) | exact And.right (And.right (And.right (And.right (And.right ‹_›)))))) | fail))
  (k_with "omC" => (first | decide | fail))
  (k_with "omU" => (first | (k_extra "omC") | (with_reducible (first | exact o_le ‹_› (by decide) | exact o_lel ‹_› (by decide) | exact o_mul ‹_› (by decide) (by decide) | exact o_mull ‹_› (by decide) (by decide))) | ((with_reducible refine o_chl ‹_› ?_); k_extra "omU") | ((with_reducible refine o_addc ?_); k_extra "omU") | ((with_reducible refine o_subc ?_); k_extra "omU") | ((with_reducible refine o_subv ‹_› ?_); k_extra "omU") | ((with_reducible refine o_add2 ‹_› ?_); k_extra "omU") | ((with_reducible refine o_add2l ‹_› ?_); k_extra "omU") | ((with_reducible refine o_addl ?_); k_extra "omU") | ((with_reducible refine o_addm ‹_› (by decide) ?_); k_extra "omU") | fail))
  (k_with "omL" => (first | (k_extra "omC") | (with_reducible (first | exact o_ge ‹_› (by decide) | exact o_gel ‹_› (by decide) | exact o_gmul ‹_› (by decide) (by decide))) | ((with_reducible refine o_gaddc ?_); k_extra "omL") | ((with_reducible refine o_gsubc ?_); k_extra "omL") | ((with_reducible refine o_gsubv ‹_› ?_); k_extra "omL") | ((with_reducible refine o_gsubvl ‹_› ?_); k_extra "omL") | ((with_reducible refine o_gadd2 ‹_› ?_); k_extra "omL") | ((with_reducible refine o_gaddl ?_); k_extra "omL") | ((with_reducible refine o_gaddm ‹_› (by decide) ?_); k_extra "omL") | fail))
  (k_with "omR" => (first | (with_reducible (first | exact o_self (by decide))) | ((with_reducible refine o_ch ‹_› ?_); k_extra "omR") | ((with_reducible refine o_addch ?_); k_extra "omR") | fail))
  (k_with "omZ" => (first | (k_extra "omR") | (k_extra "omU") | (k_extra "omL") | fail))
  (k_with "omX" => (first | decide | (k_extra "omZ") | (with_reducible (first | exact Int.le_refl _ | exact Nat.le_refl _ | exact o_nle ‹_› (by decide) | exact o_nlt ‹_› (by decide) | exact o_nlel ‹_› (by decide))) | ((with_reducible refine o_ltc ?_); k_extra "omZ") | ((with_reducible refine o_gtc ?_); k_extra "omZ") | (with_reducible (first | exact o_iffn ‹_› ‹_› | exact o_neql ‹_› (by decide) | exact o_neqi ‹_› (by decide))) | ((with_reducible show _ < _); (first | (with_reducible exact Iff.mp ‹_› ‹_›) | k_extra "omA")) | ((repeat (rename _ ≠ _ => hz; clear hz)); (repeat (rename _ ≠ _ ∧ _ => hz; clear hz)); omega +splitDisjunctions) | fail))
  (k_with "omN" => (first | (with_reducible (first | exact o_n1 | exact o_n1' | exact o_ne ‹_› | exact o_ne' ‹_› | exact o_lt ‹_› | exact o_gt ‹_› | exact o_ne (by k_extra "omA") | exact o_ne' (by k_extra "omA") | exact o_lt (by k_extra "omA") | exact o_gt (by k_extra "omA") | exact o_lts1 (by k_extra "omA") | exact o_lts1' (by k_extra "omA") | exact o_lts2 (by k_extra "omA") | exact o_lts2' (by k_extra "omA") | exact o_gt2 ‹_› (by k_extra "omA") | exact o_lt2 ‹_› (by k_extra "omA"))) | fail))
  (k_with "om" => (first | with_reducible assumption | ((first | (with_reducible show _ ≤ _) | (with_reducible show _ < _)); k_extra "omX") | ((with_reducible show _ = _ → False); k_extra "omN") | fail))
  trivial
open PySem PySem.W PyProof.Rows PySem.Calls PyProof.Rows.LCg
theorem reg_lawbox : PySem.Challenge.rw_nn0125_01 = PySem.Challenge.rw_nn0125_01 ∧ KX = KX := by k_fill; exact ⟨rfl, rfl⟩
section
variable {P S dS T : Addr} {A : Led}
theorem off_P (h : ∀ q ∈ A, Off P S dS T q.1) : ∀ q ∈ A, q.1 ≠ P := fun q hq => (h q hq).1
theorem off_S (h : ∀ q ∈ A, Off P S dS T q.1) : ∀ q ∈ A, q.1 ≠ S := fun q hq => (h q hq).2.1
theorem off_dS (h : ∀ q ∈ A, Off P S dS T q.1) : ∀ q ∈ A, q.1 ≠ dS := fun q hq => (h q hq).2.2.1
theorem off_T (h : ∀ q ∈ A, Off P S dS T q.1) : ∀ q ∈ A, q.1 ≠ T := fun q hq => (h q hq).2.2.2
end
def BoxL (w : World) (A : Led) (kvs : List (Int × Value)) (v : Value) (due : Option (Int × Int × Int × Int)) : Prop :=
  (∃ a o, v = .ref a ∧ (a, o) ∈ A ∧ o.cls = .type "dict" ∧ due = none) ∨
  (∃ a n vs ws, v = .ref a ∧ (a, listOf vs.toArray n) ∈ A ∧ Cells w A kvs vs ws ∧ (vs.length ≠ 4 ∨ .none ∈ ws) ∧ vs.length ≤ 5 ∧ due = none) ∨
  ∃ a n v0 v1 v2 v3 a0 a1 a2 a3 t0 t1 t2 t3, v = .ref a ∧ (a, listOf #[v0, v1, v2, v3] n) ∈ A ∧ Cells w A kvs [v0, v1, v2, v3] [.int a0 t0, .int a1 t1, .int a2 t2, .int a3 t3] ∧ due = some (min a0 a2, min a1 a3, max a0 a2, max a1 a3)
def BoxV (w : World) (A : Led) (kvs : List (Int × Value)) (v : Value) (due : Option (Int × Int × Int × Int)) : Prop :=
  BoxL w A kvs v due ∨ ∃ i t v' k0 nn, RefV w A v i ∧ valueAt kvs i = some (.ref t) ∧ (t, tupO #[.int 0 k0, v'] nn) ∈ A ∧ BoxL w A kvs v' due
def DueV (A : Led) (dv : Value) (due : Option (Int × Int × Int × Int)) : Prop :=
  (due = none ∧ dv = .none) ∨ ∃ e n a b c d t0 t1 t2 t3, due = some (a, b, c, d) ∧ dv = .ref e ∧ (e, listOf #[.int a t0, .int b t1, .int c t2, .int d t3] n) ∈ A
inductive LawBoxPost (w : World) (P C T : Addr) (spot n : Int) (kvs : List (Int × Value)) (nw : Led) (r : Value) : Prop
  | mk : ∀ spot' left' n' k1' k2' oT' kvs' n2 A pr v dv np due, nw = (P, penO C spot' left' k1' k2' n') :: (T, oT') :: A → r = .ref pr → (pr, tupO #[v, dv] np) ∈ A → BoxV w A kvs' v due → DueV A dv due → oT'.IsDictOf (intKind PW w) kvs' → Tb kvs' n2 → n ≤ n2 → n2 ≤ n + 6 → (∀ i x, valueAt kvs i = some x → valueAt kvs' i = some x) → 0 ≤ spot' → spot' ≤ spot + 23 → 0 ≤ left' → (∀ q ∈ A, q.1 ≠ P ∧ q.1 ≠ T) → LawBoxPost w P C T spot n kvs nw r
inductive ManyMid (h₀ : Heap) (L : Addr) (s : Shared) (m₀ : Str → Option Value) (g : Obj → Led) (C : Addr) (spot : Int) (f : Flow) (s' : Shared) : Prop
  | mk : f = .next → ∀ mn k spot' left' n' k1' k2' h' tk, s' = { s with heap := h', toks := tk } → Fr h₀ L h' (fun y => if y = ("many" : Str) then some (.int mn k) else m₀ y) → News h₀ L h' (g (penO C spot' left' k1' k2' n')) → 3 ≤ mn → mn ≤ 5 → 0 ≤ spot' → spot' ≤ spot + 2 → 0 ≤ left' → ManyMid h₀ L s m₀ g C spot f s'
theorem many_end {h₀ h' : Heap} {L C : Addr} {s : Shared} {m₀ : Str → Option Value} {g : Obj → Led} {spot spot' left' mn : Int} {k k1' k2' : Tok} {n' tk : Nat} (F : Fr h₀ L h' (fun y => if y = ("many" : Str) then some (.int mn k) else m₀ y)) (N : News h₀ L h' (g (penO C spot' left' k1' k2' n')))
    (q1 : 3 ≤ mn) (q2 : mn ≤ 5) (q3 : 0 ≤ spot') (q4 : spot' ≤ spot + 2) (q5 : 0 ≤ left') : ManyMid h₀ L s m₀ g C spot .next { s with heap := h', toks := tk } :=
  ⟨rfl, mn, k, spot', left', n', k1', k2', h', tk, rfl, F, N, q1, q2, q3, q4, q5⟩
theorem join_many {prog : Program} {w : World} {A : Around} {E : Value → Shared → Prop} {Q : Flow → Shared → Prop} {s : Shared} {env : Env} {h₀ : Heap} {L P C S dS T : Addr} {m₀ : Str → Option Value} {news : Led} {g : Obj → Led} {spot left : Int} {k1 k2 : Tok} {n : Nat} {stmt : Stmt} {rest : List Stmt} (uap : Apart P S dS T) (uF : Fr h₀ L s.heap m₀) (uN : News h₀ L s.heap news) (uU : UpdF P (penO C spot left k1 k2 n) news g)
    (h1 : wpAny (model prog w) A (exec stmt env) (ManyMid h₀ L s m₀ g C spot) E s)
    (h2 : ∀ mn k spot' left' n' k1' k2' h' tk, Fr h₀ L h' (fun y => if y = ("many" : Str) then some (.int mn k) else m₀ y) → News h₀ L h' (g (penO C spot' left' k1' k2' n')) → 3 ≤ mn → mn ≤ 5 → 0 ≤ spot' → spot' ≤ spot + 2 → 0 ≤ left' →
      wpAny (model prog w) A (execs rest env) Q E { s with heap := h', toks := tk }) : wpAny (model prog w) A (execs (stmt :: rest) env) Q E s := by
  refine wpAny_execs_cons (wpAny_mono h1 (fun f s' z => ?_) fun _ _ z => z)
  obtain ⟨rfl, mn, k, spot', left', n', k1', k2', h', tk, rfl, F', N', q1, q2, q3, q4, q5⟩ := z
  exact h2 mn k spot' left' n' k1' k2' h' tk F' N' q1 q2 q3 q4 q5
inductive PInv (w : World) (P C S dS T T2 : Addr) (k3 k4 : Tok) (cs : Led) (spot n : Int) (kvs : List (Int × Value)) (i : Nat) (ys : List Value) (news : Led) : Prop
  | mk : ∀ spot' left' k1 k2 nn oT' kvs' n' Z vs ws, news = cs ++ (P, penO C spot' left' k1 k2 nn) :: (S, instObj 405 dS) :: (dS, shD w k3 k4 T T2) :: (T, oT') :: Z → ys.length = i → PairsAt w Z kvs' ys vs ws → oT'.IsDictOf (intKind PW w) kvs' → Tb kvs' n' → n ≤ n' → n' ≤ n + i → (∀ i x, valueAt kvs i = some x → valueAt kvs' i = some x) → 0 ≤ spot' → spot' ≤ spot + 2 + 4 * i → 0 ≤ left' → (∀ q ∈ Z, Off P S dS T q.1) → PInv w P C S dS T T2 k3 k4 cs spot n kvs i ys news
theorem off3_app {I C D : Addr} {l l' : Led} (h : Off3 I C D (l ++ l')) : Off3 I C D l ∧ Off3 I C D l' :=
  ⟨Off3.of fun p hp => h.mem p (List.mem_append_left _ hp), Off3.of fun p hp => h.mem p (List.mem_append_right _ hp)⟩
theorem pinv_pre {I Ca D P S dS T : Addr} {oI oC oD o1 o2 o3 o4 : Obj} {cs Z : Led} (h : Off3 I Ca D (cs ++ (P, o1) :: (S, o2) :: (dS, o3) :: (T, o4) :: Z)) (hcs : ∀ x ∈ cs, Off P S dS T x.1) : ∀ x ∈ (I, oI) :: (Ca, oC) :: (D, oD) :: cs, Off P S dS T x.1 := by
  obtain ⟨_, a, b, c, d, _⟩ := off3_app h
  intro x hx
  rcases List.mem_cons.mp hx with rfl | hx
  · exact ⟨Ne.symm a.1, Ne.symm b.1, Ne.symm c.1, Ne.symm d.1⟩
  · rcases List.mem_cons.mp hx with rfl | hx
    · exact ⟨Ne.symm a.2.1, Ne.symm b.2.1, Ne.symm c.2.1, Ne.symm d.2.1⟩
    · rcases List.mem_cons.mp hx with rfl | hx
      · exact ⟨Ne.symm a.2.2, Ne.symm b.2.2, Ne.symm c.2.2, Ne.symm d.2.2⟩
      · exact hcs x hx
theorem pinv_step {w : World} {h₀ h' : Heap} {L I Ca D P C S dS T T2 pr : Addr} {m : Str → Option Value} {s₁ : Shared} {oI oC o1 oT1 oT' : Obj} {k3 k4 k1' k2' : Tok} {cs Z Z' : Led} {spot n spot1 spot' left' n1 n2 : Int} {kvs kvs1 kvs' : List (Int × Value)} {i n' np tk : Nat} {ys vs ws : List Value} {v wv : Value}
    (off0 : Off3 I Ca D (cs ++ (P, o1) :: (S, instObj 405 dS) :: (dS, shD w k3 k4 T T2) :: (T, oT1) :: Z)) (hi : ys.length = i) (hpa : PairsAt w Z kvs1 ys vs ws) (b1 : n ≤ n1) (b2 : n1 ≤ n + i) (ext0 : ∀ i x, valueAt kvs i = some x → valueAt kvs1 i = some x) (b3 : spot1 ≤ spot + 2 + 4 * i)
    (F : Fr h₀ L h' m) (N : News h₀ L h' ((I, oI) :: (Ca, oC) :: (D, lst ys) :: (cs ++ (P, penO C spot' left' k1' k2' n') :: (S, instObj 405 dS) :: (dS, shD w k3 k4 T T2) :: (T, oT') :: Z'))) (sub : ∀ q ∈ Z, q ∈ Z') (offZ : ∀ q ∈ Z', Off P S dS T q.1)
    (ne : ∀ q ∈ Z', q ∈ Z ∨ ∀ x ∈ (I, oI) :: (Ca, oC) :: (D, lst ys) :: cs, x.1 ≠ q.1) (mp : (pr, tupO #[v, wv] np) ∈ Z') (hc : CellV w Z' kvs' v wv) (hd : oT'.IsDictOf (intKind PW w) kvs') (hTb : Tb kvs' n2) (r1 : n1 ≤ n2) (r2 : n2 ≤ n1 + 1)
    (ext : ∀ i x, valueAt kvs1 i = some x → valueAt kvs' i = some x) (r3 : 0 ≤ spot') (r4 : spot' ≤ spot1 + 4) (r5 : 0 ≤ left') :
    CompEnd h₀ L m s₁ I oI Ca oC D (lst ys) (fun _ => True) (fun y news' => PInv w P C S dS T T2 k3 k4 cs spot n kvs (i + 1) (ys ++ [y]) news') (.ref pr) { s₁ with heap := h', toks := tk } := by
  obtain ⟨oc, a, b, c, d, z⟩ := off3_app off0
  refine CompEnd.intro F N (cs ++ (P, penO C spot' left' k1' k2' n') :: (S, instObj 405 dS) :: (dS, shD w k3 k4 T T2) :: (T, oT') :: Z') (fun q hq => hq) (Off3.of fun q hq => ?_) trivial
    ⟨spot', left', k1', k2', n', oT', kvs', n2, Z', _, _, rfl, by rw [List.length_append, hi]; rfl, (hpa.mono sub ext).snoc mp hc, hd, hTb, by omega, by push_cast; omega, fun i x e => ext i x (ext0 i x e), r3, by push_cast; omega, r5, offZ⟩
  rcases List.mem_append.mp hq with hq | hq
  · exact oc.mem q hq
  · rcases List.mem_cons.mp hq with rfl | hq
    · exact a
    · rcases List.mem_cons.mp hq with rfl | hq
      · exact b
      · rcases List.mem_cons.mp hq with rfl | hq
        · exact c
        · rcases List.mem_cons.mp hq with rfl | hq
          · exact d
          · rcases ne q hq with hq | hq
            · exact z.mem q hq
            · exact ⟨Ne.symm (hq _ (.head _)), Ne.symm (hq _ (.tail _ (.head _))), Ne.symm (hq _ (.tail _ (.tail _ (.head _))))⟩
theorem range_small {mn : Int} (h1 : 3 ≤ mn) (h2 : mn ≤ 5) : Builtin.Range.small 0 mn 1 = true ∧ Builtin.Range.rangeSize 0 mn 1 = ((mn.toNat : Nat) : Int) ∧ mn.toNat ≤ sizeLine := by
  have : mn = 3 ∨ mn = 4 ∨ mn = 5 := by omega
  rcases this with rfl | rfl | rfl <;> exact ⟨by decide, by decide, by rw [sizeLine_eq]; decide⟩
theorem lawbox_end {w : World} {base : Heap} {outer : List Env} {s : Shared} {g h' : Heap} {L P C S dS T T2 pr : Addr} {m : Str → Option Value} {all : Led} {tk nn n' np : Nat} {k1 k2 k3 k4 k1' k2' : Tok} {spot left spot' left' n n2 : Int} {oT oT' : Obj} {kvs kvs' : List (Int × Value)} {v dv : Value} {due : Option (Int × Int × Int × Int)}
    (G : Ground s [(P, penO C spot left k1 k2 nn), (S, instObj 405 dS), (dS, shD w k3 k4 T T2), (T, oT)] g) (hl : LedOk base outer s.heap [(P, penO C spot left k1 k2 nn), (S, instObj 405 dS), (dS, shD w k3 k4 T T2), (T, oT)]) (F : Fr g L h' m) (N : News g L h' all)
    (m0 : (P, penO C spot' left' k1' k2' n') ∈ all) (m1 : (S, instObj 405 dS) ∈ all) (m2 : (dS, shD w k3 k4 T T2) ∈ all) (m3 : (T, oT') ∈ all) (mp : (pr, tupO #[v, dv] np) ∈ all) (op : Off P S dS T pr) (hd : oT'.IsDictOf (intKind PW w) kvs') (hTb : Tb kvs' n2)
    (hext : ∀ i x, valueAt kvs i = some x → valueAt kvs' i = some x) (hb : BoxV w (fresh P S dS T all) kvs' v due) (hu : DueV (fresh P S dS T all) dv due) (q1 : n ≤ n2) (q2 : n2 ≤ n + 6) (q3 : 0 ≤ spot') (q4 : spot' ≤ spot + 23) (q5 : 0 ≤ left') :
    Ok s [P, T] (LawBoxPost w P C T spot n kvs) (.ref pr) { s with heap := h', toks := tk } := by
  refine ⟨h', tk, (P, penO C spot' left' k1' k2' n') :: (T, oT') :: fresh P S dS T all, rfl, keep_of G hl F N (fun q hq hne => ?_), fun q hq => ?_, spot', left', n', k1', k2', oT', kvs', n2, _, pr, v, dv, np, due, rfl, rfl, fresh_mem mp op, hb, hu, hd, hTb, q1, q2, hext, q3, q4, q5, fun q hq => ?_⟩
  · simp only [List.mem_cons, List.not_mem_nil, or_false, not_or] at hne
    rcases List.mem_cons.mp hq with rfl | hq
    · exact absurd rfl hne.1
    · rcases List.mem_cons.mp hq with rfl | hq
      · exact m1
      · rcases List.mem_cons.mp hq with rfl | hq
        · exact m2
        · rw [List.mem_singleton.mp hq] at hne; exact absurd rfl hne.2
  · rcases List.mem_cons.mp hq with rfl | hq
    · exact ⟨(N _ m0).1, .inr (.head _)⟩
    · rcases List.mem_cons.mp hq with rfl | hq
      · exact ⟨(N _ m3).1, .inr (.tail _ (.head _))⟩
      · obtain ⟨h1, h2⟩ := List.mem_filter.mp hq
        have h3 := of_decide_eq_true h2
        exact ⟨(N _ h1).1, .inl (new_of G N h1 (by simp only [List.map_cons, List.map_nil, List.mem_cons, List.not_mem_nil, or_false, not_or]; exact h3)).2⟩
  · have h3 := of_decide_eq_true (List.mem_filter.mp hq).2
    exact ⟨h3.1, h3.2.2.2⟩
theorem box_dict {w : World} {P S dS T a : Addr} {all : Led} {kvs : List (Int × Value)} {K : Type} [DecidableEq K] {knd : KeyKind PW w K} {o : Obj} {kv : List (K × Value)} (m : (a, o) ∈ all) (n : Off P S dS T a) (hd : o.IsDictOf knd kv) : BoxV w (fresh P S dS T all) kvs (.ref a) none :=
  .inl (.inl ⟨a, o, rfl, fresh_mem m n, by obtain ⟨_, _, h, _⟩ := hd; exact h.1, rfl⟩)
theorem cmap_end {h₀ h' : Heap} {L I Ca D : Addr} {m : Str → Option Value} {s₁ : Shared} {oI oC : Obj} {ys : List Value} {S : Led → Prop} {N0 : Led} {y : Value} {tk : Nat} (F : Fr h₀ L h' m) (N : News h₀ L h' ((I, oI) :: (Ca, oC) :: (D, lst ys) :: N0)) (off : Off3 I Ca D N0) (hS : S N0) :
    CompEnd h₀ L m s₁ I oI Ca oC D (lst ys) S (fun y' news' => y' = y ∧ news' = N0) y { s₁ with heap := h', toks := tk } := CompEnd.intro F N N0 (fun _ h => h) off hS ⟨rfl, rfl⟩
theorem src_led {h₀ : Heap} {ax : Addr} {ys : List Value} {news : Led} (h : (ax, lst ys) ∈ news) : SrcAt h₀ ax ys.toArray news := .inr ⟨_, h, rfl, _, rfl⟩
theorem mn_four {mn : Int} {k : Nat} (hl : k = mn.toNat) (h4 : k = 4) (_ : 3 ≤ mn) : mn = 4 := by omega
theorem sort_min {p q x : Int} (b : (x = p ∨ x = q) ∧ x ≤ p ∧ x ≤ q) : x = min p q := by omega
theorem sort_max {p q x : Int} (b : (x = p ∨ x = q) ∧ p ≤ x ∧ q ≤ x) : x = max p q := by omega
theorem four {α : Type} {l : List α} (h : l.length = 4) : ∃ a b c d, l = [a, b, c, d] := by
  match l, h with
  | [a, b, c, d], _ => exact ⟨a, b, c, d, rfl⟩
theorem box_bad {w : World} {P S dS T a : Addr} {all Z : Led} {kvs kvs' : List (Int × Value)} {vs ws : List Value} {n : Nat} (m : (a, listOf vs.toArray n) ∈ all) (o : Off P S dS T a) (hc : Cells w Z kvs vs ws) (hZ : ∀ q ∈ Z, Off P S dS T q.1) (sub : ∀ q ∈ Z, q ∈ all) (hk : ∀ i x, valueAt kvs i = some x → valueAt kvs' i = some x) (hb : vs.length ≠ 4 ∨ .none ∈ ws) (h5 : vs.length ≤ 5) :
    BoxL w (fresh P S dS T all) kvs' (.ref a) none :=
  .inr (.inl ⟨a, n, vs, ws, rfl, fresh_mem m o, hc.mono (fresh_sub sub (off_P hZ) (off_S hZ) (off_dS hZ) (off_T hZ)) hk, hb, h5, rfl⟩)
theorem box_good {w : World} {P S dS T a : Addr} {all Z : Led} {kvs kvs' : List (Int × Value)} {v0 v1 v2 v3 : Value} {a0 a1 a2 a3 : Int} {t0 t1 t2 t3 : Tok} {n : Nat} (m : (a, listOf #[v0, v1, v2, v3] n) ∈ all) (o : Off P S dS T a) (hc : Cells w Z kvs [v0, v1, v2, v3] [.int a0 t0, .int a1 t1, .int a2 t2, .int a3 t3])
    (hZ : ∀ q ∈ Z, Off P S dS T q.1) (sub : ∀ q ∈ Z, q ∈ all) (hk : ∀ i x, valueAt kvs i = some x → valueAt kvs' i = some x) : BoxL w (fresh P S dS T all) kvs' (.ref a) (some (min a0 a2, min a1 a3, max a0 a2, max a1 a3)) :=
  .inr (.inr ⟨a, n, v0, v1, v2, v3, a0, a1, a2, a3, t0, t1, t2, t3, rfl, fresh_mem m o, hc.mono (fresh_sub sub (off_P hZ) (off_S hZ) (off_dS hZ) (off_T hZ)) hk, rfl⟩)
theorem due_good {P S dS T e : Addr} {all : Led} {x0 x1 x2 x3 a0 a1 a2 a3 : Int} {t0 t1 t2 t3 : Tok} {n : Nat} (m : (e, listOf #[.int x0 t0, .int x1 t1, .int x2 t2, .int x3 t3] n) ∈ all) (o : Off P S dS T e)
    (e0 : (x0 = a0 ∨ x0 = a2) ∧ x0 ≤ a0 ∧ x0 ≤ a2) (e1 : (x1 = a1 ∨ x1 = a3) ∧ x1 ≤ a1 ∧ x1 ≤ a3) (e2 : (x2 = a0 ∨ x2 = a2) ∧ a0 ≤ x2 ∧ a2 ≤ x2) (e3 : (x3 = a1 ∨ x3 = a3) ∧ a1 ≤ x3 ∧ a3 ≤ x3) : DueV (fresh P S dS T all) (.ref e) (some (min a0 a2, min a1 a3, max a0 a2, max a1 a3)) :=
  .inr ⟨e, n, x0, x1, x2, x3, t0, t1, t2, t3, by rw [sort_min e0, sort_min e1, sort_max e2, sort_max e3], rfl, fresh_mem m o⟩
theorem off_new {P S dS T x y z : Addr} {o0 o1 o2 o3 : Obj} {news : Led} (h : ∀ q ∈ news, q.1 ≠ x ∧ q.1 ≠ y ∧ q.1 ≠ z) (m0 : (P, o0) ∈ news) (m1 : (S, o1) ∈ news) (m2 : (dS, o2) ∈ news) (m3 : (T, o3) ∈ news) : Off P S dS T x ∧ Off P S dS T y ∧ Off P S dS T z :=
  ⟨⟨Ne.symm (h _ m0).1, Ne.symm (h _ m1).1, Ne.symm (h _ m2).1, Ne.symm (h _ m3).1⟩, ⟨Ne.symm (h _ m0).2.1, Ne.symm (h _ m1).2.1, Ne.symm (h _ m2).2.1, Ne.symm (h _ m3).2.1⟩, ⟨Ne.symm (h _ m0).2.2, Ne.symm (h _ m1).2.2, Ne.symm (h _ m2).2.2, Ne.symm (h _ m3).2.2⟩⟩
theorem box_tab {w : World} {P S dS T t R dR : Addr} {all : Led} {kvs : List (Int × Value)} {n : Int} {v' : Value} {k0 k1 k2 k3 k4 : Tok} {nn : Nat} {due : Option (Int × Int × Int × Int)} (hT : Tb kvs n) (m1 : (R, instObj 289 dR) ∈ all) (m2 : (dR, refD w k1 k2 k3 k4 (n + 1) 0) ∈ all) (m3 : (t, tupO #[.int 0 k0, v'] nn) ∈ all)
    (oo : Off P S dS T t ∧ Off P S dS T R ∧ Off P S dS T dR) (hb : BoxL w (fresh P S dS T all) (stored kvs (n + 1) (.ref t)) v' due) : BoxV w (fresh P S dS T all) (stored kvs (n + 1) (.ref t)) (.ref R) due :=
  .inr ⟨n + 1, t, v', k0, nn, ⟨R, dR, k1, k2, k3, k4, rfl, fresh_mem m1 oo.2.1, fresh_mem m2 oo.2.2⟩, by rw [tb_at hT, if_pos rfl], fresh_mem m3 oo.1, hb⟩
section
theorem rg_LawBox120 : True := by
  (k_with "exec For Name Call cons nil" => ((k_here; (rename Fr _ _ _ _ => lF'); (with_unfolding_all refine' For_invVF lF' ?k1z1 ?k2z1 ?_; (case k1z1 => exact rfl); (case k2z1 => exact rfl); k_whole))))
  (k_with "exec For Name Subscript cons nil" => ((k_here; (rename Fr _ _ _ _ => lF'); (with_unfolding_all refine' For_invVF lF' ?k1z2 ?k2z2 ?_; (case k1z2 => exact rfl); (case k2z2 => exact rfl); k_whole))))
  (k_with "k_all" => (first | exact off_P (by assumption) | exact off_S (by assumption) | exact off_dS (by assumption) | exact off_T (by assumption)))
  (k_with "call ref" => ((k_here; (with_reducible show wpAny _ _ (call (Value.ref 457) _) _ _ _); k_dflt (refine' use_draw ?Wz4 ?Bz4 ?Fz4 ?Nz4 ?hkz4 ?a1z4 ?Uz4 ?hCz4 ?hCPz4 ?hIz4 ?hlz4 ?hs0z4 ?hs1z4 ?hl0z4 ?hm0z4 ?hm1z4 ?_; (case Fz4 => k_asm); (case Nz4 => k_asm); (case Wz4 => assumption); (case Bz4 => assumption); (case Uz4 => k_updF); (case a1z4 => exact ⟨rfl, le_of_ble rfl, rfl, le_of_ble rfl⟩); (case hkz4 => exact ⟨rfl, rfl⟩); (case hCz4 => first | assumption | exact stays_list (Fr.keep (by assumption)) (by assumption)); (case hCPz4 => assumption); (case hIz4 => assumption); (case hlz4 => assumption); (case hs0z4 => omega); (case hs1z4 => omega); (case hl0z4 => omega); (case hm0z4 => first | decide | omega); (case hm1z4 => first | decide | omega)); intro _ _ _ _ _ _ _ _ _ _ N'; (try dsimp only at N'); revert N'; intro _ _ _ _ _ _; (try k_sweep))))
  (k_with "call ref" => ((k_here; (with_reducible show wpAny _ _ (call (Value.ref 376) _) _ _ _); k_dflt (refine' use_add ?Wz5 ?Bz5 ?Fz5 ?Nz5 ?hkz5 ?a1z5 ?Uz5 ?m1z5 ?m2z5 ?hnez5 ?hdz5 ?loz5 ?hTz5 ?hn0z5 ?hnz5 ?_; (case Fz5 => k_asm); (case Nz5 => k_asm); (case Wz5 => assumption); (case Bz5 => assumption); (case m1z5 => k_mem); (case m2z5 => k_mem); (case Uz5 => k_updF); (case a1z5 => exact ⟨rfl, le_of_ble rfl, rfl, le_of_ble rfl⟩); (case hkz5 => exact ⟨rfl, rfl⟩); (case hnez5 => exact ⟨by assumption, by assumption, by assumption⟩); (case hdz5 => assumption); (case loz5 => assumption); (case hTz5 => assumption); (case hn0z5 => omega); (case hnz5 => omega)); intro _ _ _ _ _ _ _ _ _ _ _ _ _ N'; (try dsimp only at N'); revert N'; intro _ _ _ ne'; (have nA' := ne'); (try k_sweep))))
  (k_with "call ref" => ((k_here; (with_reducible show wpAny _ _ (call (Value.ref 471) _) _ _ _); k_dflt (refine' use_number (pre := [_, _, _, _, _]) ?Wz6 ?Bz6 ?Fz6 ?Nz6 ?hkz6 ?a1z6 ?hCz6 ?apz6 ?hIz6 ?hlz6 ?hdz6 ?loz6 ?hTz6 ?hn0z6 ?hnz6 ?hs0z6 ?hs1z6 ?hl0z6 ?hZz6 ?hprez6 ?_; (case Fz6 => k_asm); (case Nz6 => k_asm); (case Wz6 => assumption); (case Bz6 => assumption); (case a1z6 => exact ⟨rfl, le_of_ble rfl, rfl, le_of_ble rfl⟩); (case hkz6 => exact ⟨rfl, rfl⟩); (case hCz6 => assumption); (case apz6 => assumption); (case hIz6 => assumption); (case hlz6 => assumption); (case hdz6 => assumption); (case loz6 => assumption); (case hTz6 => assumption); (case hn0z6 => omega); (case hnz6 => omega); (case hs0z6 => omega); (case hs1z6 => omega); (case hl0z6 => omega); (case hZz6 => assumption); (case hprez6 => assumption)); intro _ _ _ _ _ _ _ _ _ _ _ _ _ _ _ _ _ _ _ _ _ _ _ _ _ _ _ _ _ _; (try k_sweep))))
  (k_with "eval ListComp" => ((k_here; k_dflt (refine PyProof.Rows.LCg.ListComp_U (F₀ := by k_asm) (by with_unfolding_all rfl) (by decide) (by rfl) (by decide) (by rfl) ?_))))
  (k_with "exec Assign cons ListComp" => ((k_here; k_dflt (refine PyProof.Rows.LCg.Assign_ListComp_U (F₀ := by k_asm) (by rfl) (by with_unfolding_all rfl) (by with_unfolding_all rfl) (by decide) (by rfl) (by decide) (by rfl) (by rfl) (by rfl) ?_))))
  (k_with "k_mem" => (((repeat (first | exact List.mem_cons_self | refine List.mem_cons_of_mem _ ?_)); (try (with_reducible_and_instances assumption)); done)))
  trivial
local macro_rules | `(tactic| k_lt $h:ident) => `(tactic| replace $h := allLt_of $h)
variable {w : World} {p : Program} {loose : List Str} {mean : ExcName → Option Value} {mg mb : Str → Option Value} {base : Heap} {outer : List Env} {s : Shared} {dp un : Nat} {gd : Option (List Code)}
theorem rg_LawBox123 : True := by
  (k_with "k_ne" => (((try dsimp only); k_dflt (first | with_reducible assumption | with_reducible exact Ne.symm (by with_reducible assumption) | (refine' ne_all ?hz10 ?mz10; (case hz10 => with_reducible assumption); (case mz10 => k_mem)) | (refine' ne_all' ?hz10 ?mz10; (case hz10 => with_reducible assumption); (case mz10 => k_mem)) | (refine' ne_m1 ?hz10 ?mz10; (case hz10 => with_reducible assumption); (case mz10 => k_mem)) | (refine' ne_m2 ?hz10 ?mz10; (case hz10 => with_reducible assumption); (case mz10 => k_mem)) | (refine' ne_m3 ?hz10 ?mz10; (case hz10 => with_reducible assumption); (case mz10 => k_mem)) | (refine' ne_m1' ?hz10 ?mz10; (case hz10 => with_reducible assumption); (case mz10 => k_mem)) | (refine' ne_m2' ?hz10 ?mz10; (case hz10 => with_reducible assumption); (case mz10 => k_mem)) | (refine' ne_m3' ?hz10 ?mz10; (case hz10 => with_reducible assumption); (case mz10 => k_mem)) | (refine' ne_l ?hz10; with_reducible assumption) | (refine' ne_g ?hz10; with_reducible assumption) | (refine' ne_all2 ?gz10 ?hz10 ?mz10; (case gz10 => with_reducible assumption); (case hz10 => with_reducible assumption); (case mz10 => k_mem)) | (refine' ne_all2' ?gz10 ?hz10 ?mz10; (case gz10 => with_reducible assumption); (case hz10 => with_reducible assumption); (case mz10 => k_mem)) | (refine' ne_s1 ?hz10 ?mz10; (case hz10 => with_reducible assumption); (case mz10 => k_mem)) | (refine' ne_s2 ?hz10 ?mz10; (case hz10 => with_reducible assumption); (case mz10 => k_mem)) | (refine' ne_s1' ?hz10 ?mz10; (case hz10 => with_reducible assumption); (case mz10 => k_mem)) | (refine' ne_s2' ?hz10 ?mz10; (case hz10 => with_reducible assumption); (case mz10 => k_mem)) | exact ne_ss | exact ne_ss' | ((try simp only [AllLt, and_true] at *); refine neN ?_; omega)))))
  (k_with "compareOp In none ref" => ((k_here; k_dflt (refine' in_none ?Nz11 ?mz11 ?hwz11 ?hbz11 ?_; (case Nz11 => k_asm); (case mz11 => k_mem); (case hwz11 => assumption); (case hbz11 => assumption)))))
  (k_with "execs cons" => ((k_here; (with_reducible show wpAny _ _ (execs (Stmt.Assign [Expr.Name _ _] (Expr.IfExp _ _ _ _) _ :: _) _) _ _ _); k_dflt (refine' join_many ?apz12 ?Fz12 ?Nz12 ?Uz12 ?h1z12 ?h2z12; (case apz12 => assumption); (case Fz12 => k_asm); (case Nz12 => k_asm); (case Uz12 => k_updF)); rotate_left; (intro _ _ _ _ _ _ _ _ _ _ N'; (try dsimp only at N'); revert N'; intro _ _ _ _ _ _; (try k_sweep)); rotate_left)))
  trivial
set_option maxRecDepth 100000
set_option maxHeartbeats 8000000
theorem lawbox_ok {P C S dS T T2 : Addr} {spot left n : Int} {k1 k2 k3 k4 : Tok} {nn : Nat} {oT : Obj} {kvs : List (Int × Value)} {vs : List Value} {ns : List Int} (Cc : Cx w p loose mean mg mb base outer s.heap)
    (hl : LedOk base outer s.heap [(P, penO C spot left k1 k2 nn), (S, instObj 405 dS), (dS, shD w k3 k4 T T2), (T, oT)]) (hC : s.heap.IsList C vs.toArray) (hCn : C ∉ [P, S, dS, T]) (ap : Apart P S dS T)
    (hI : IntsAre vs ns) (hlen : ns.length ≤ 63) (hs0 : 0 ≤ spot) (hs1 : spot ≤ 80000) (hl0 : 0 ≤ left)
    (hd : oT.IsDictOf (intKind PW w) kvs) (lo : (T == sysModules) = false) (hTb : Tb kvs n) (hn0 : 0 ≤ n) (hn : n ≤ 80) :
    wpAny (model PW w) (kA 520 4600 gd outer) (call (.ref 476) [.ref P, .ref S]) (Ok s [P, T] (LawBoxPost w P C T spot n kvs)) Never s := by
  refine wpAny_call ?_
  have W' := Cc.W
  obtain ⟨e1, e2, e3, e4, e5, e6⟩ := ap
  have ap : Apart P S dS T := ⟨e1, e2, e3, e4, e5, e6⟩
  replace e1 := neN e1; replace e2 := neN e2; replace e3 := neN e3; replace e4 := neN e4; replace e5 := neN e5; replace e6 := neN e6
  k_dflt (refine' enterC (binds := [(("pen" : Str), .ref P), (("shelf" : Str), .ref S)]) (led := [(P, penO C spot left k1 k2 nn), (S, instObj 405 dS), (dS, shD w k3 k4 T T2), (T, oT)]) Cc hl ?k6 ?k7 ?k8 ?k9 ?kB ?kD ?_ ?c2 ?c3 ?c4; (case k6 => k_is); (case k7 => k_is); (case k8 => decide); (case k9 => exact BindsTo.of_eq rfl); (case kB => exact rfl); (case kD => decide +kernel); (case c2 => exact rfl); (case c3 => exact rfl); (case c4 => exact rfl))
  intro g L' h' tk' cells' G F' N' Y' l1 B' X' T'
  obtain ⟨oc1, oc2, hE', dc1, dc2⟩ := CellsAre.two Y'; subst hE'; clear Y'
  k_lt l1
  simp only [List.cons_append, List.nil_append] at N'
  have hC' : g.IsList C vs.toArray := isList_ground G hC (by simpa using hCn)
  have hCP : C ≠ P := fun z => hCn (by rw [z]; exact .head _)
  clear hC
  (try dsimp only); (try k_fold)
  repeat' ((fail_if_success (with_reducible show CompSrc _ _ _ _ _ _ _ _ _ _ _ _ _ _)); first | (k_end; exact many_end (by assumption) (by assumption) (by omega) (by omega) (by omega) (by omega) (by omega)) | (k_unfold; (try dsimp only)) | walk1 | (dsimp only; walk1) | fail "no step")
  rename IsRange _ _ _ _ _ _ _ _ => hR
  have hcs : ∀ x ∈ ([(L' + 1 + 1, oc1), (L' + 1, oc2)] : Led), Off P S dS T x.1 := by
    simp only [List.forall_mem_cons]
    exact ⟨⟨by k_ne, by k_ne, by k_ne, by k_ne⟩, ⟨by k_ne, by k_ne, by k_ne, by k_ne⟩, fun _ hq => nomatch hq⟩
  refine CompSrc.range (by rfl) (by assumption) (by assumption) hR (range_small (by assumption) (by assumption)).1 (range_small (by assumption) (by assumption)).2.1 (range_small (by assumption) (by assumption)).2.2 fun g2 => ?_
  refine comp_inv (PInv w P C S dS T T2 k3 k4 [(L' + 1 + 1, oc1), (L' + 1, oc2)] spot n kvs) ?step ?fin _ 0 [] _ (Nat.add_zero _) ⟨_, _, _, _, _, _, _, _, [], [], [], rfl, rfl, .nil, hd, hTb, by omega, by omega, ext_refl, by assumption, by omega, by assumption, fun _ hq => nomatch hq⟩
  case step =>
    intro i ys news v I oI Ca oC D m₂ h tk E' hi hinv hPv hns hx F' N' off0 ne3
    obtain ⟨spot1, left1, k11, k21, nn1, oT1, kvs1, n1, Z, vs1, ws1, rfl, hlen1, hpa, hd1, hTb1, b1, b2, ext0, b3, b4, b5, hZ⟩ := hinv
    have hi5 : i ≤ 5 := by omega
    have hpre := pinv_pre (oI := oI) (oC := oC) (oD := lst ys) off0 hcs
    simp only [List.cons_append, List.nil_append] at N'
    repeat' (first | (k_end; exact pinv_step off0 hlen1 hpa b1 b2 ext0 b4 (by assumption) (by assumption) (by assumption) (by assumption) (by assumption) (by assumption) (by assumption) (by assumption) (by assumption) (by omega) (by omega) (by assumption) (by omega) (by omega) (by omega)) | (k_unfold; (try dsimp only)) | walk1 | (dsimp only; walk1) | fail "no step")
    all_goals w_report
  case fin =>
    intro ys news hinv D h tk F' N' offD
    obtain ⟨spot1, left1, k11, k21, nn1, oT1, kvs1, n1, Z, vs1, ws1, rfl, hlen1, hpa, hd1, hTb1, b1, b2, ext0, b3, b4, b5, hZ⟩ := hinv
    clear hd hTb
    simp only [List.cons_append, List.nil_append] at N'
    have offD' : Off1 D ([(L' + 1 + 1, oc1), (L' + 1, oc2), (P, penO C spot1 left1 k11 k21 nn1), (S, instObj 405 dS), (dS, shD w k3 k4 T T2), (T, oT1)] ++ Z) := offD
    obtain ⟨u1, u2, u3, u4, u5, u6, offZ⟩ := offD'
    dsimp only at u1 u2 u3 u4 u5 u6
    clear offD
    (try dsimp only); (try k_fold)
    repeat' ((fail_if_success (with_reducible show CompSrc _ _ _ _ _ _ _ _ _ _ _ _ _ _)); first | (k_end; exact lawbox_end (due := none) G hl (by assumption) (by assumption) (by k_mem) (by k_mem) (by k_mem) (by k_mem) (by k_mem) ⟨by k_ne, by k_ne, by k_ne, by k_ne⟩ hd1 hTb1 ext0 (box_dict (by k_mem) ⟨by k_ne, by k_ne, by k_ne, by k_ne⟩ (by assumption)) (.inl ⟨rfl, rfl⟩) (by omega) (by omega) (by omega) (by omega) (by omega)) | (k_unfold; (try dsimp only)) | walk1 | (dsimp only; walk1) | fail "no step")
    have h5 : ys.length ≤ 5 := by omega
    refine CompSrc.ledger (its := ys.toArray) (k := ys.length) (by rfl) (by assumption) (by assumption) (by k_mem) (by rw [List.size_toArray, sizeLine_eq]; omega) fun g3 => ?_
    refine comp_map vs1 (by rw [List.size_toArray]; exact hpa.len.1) ?st1 ?fi1
    case st1 =>
      intro i zs v y I oI Ca oC D2 m₂ h tk E' hP hy hns hx F' N' off0 ne3
      obtain ⟨pr, npr, v0, w0, rfl, hmem, hv0, hw0⟩ := hpa.at (i := i) (y := v) (by simpa using hP)
      obtain rfl : v0 = y := Option.some.inj (hv0.symm.trans hy)
      repeat' (first | (k_end; exact cmap_end (by assumption) (by assumption) off0 (src_led (by k_mem))) | (k_unfold; (try dsimp only)) | walk1 | (dsimp only; walk1) | fail "no step")
      all_goals w_report
    case fi1 =>
      intro D2 h2 tk2 F' N' offD2
      (try dsimp only); (try k_fold)
      repeat' ((fail_if_success (with_reducible show CompSrc _ _ _ _ _ _ _ _ _ _ _ _ _ _)); first | (k_unfold; (try dsimp only)) | walk1 | (dsimp only; walk1) | fail "no step")
      refine CompSrc.ledger (its := ys.toArray) (k := ys.length) (by rfl) (by assumption) (by assumption) (by k_mem) (by rw [List.size_toArray, sizeLine_eq]; omega) fun g3 => ?_
      refine comp_map ws1 (by rw [List.size_toArray]; exact hpa.len.2) ?st2 ?fi2
      case st2 =>
        intro i zs v y I oI Ca oC D3 m₂ h tk E' hP hy hns hx F' N' off0 ne3
        obtain ⟨pr, npr, v0, w0, rfl, hmem, hv0, hw0⟩ := hpa.at (i := i) (y := v) (by simpa using hP)
        obtain rfl : w0 = y := Option.some.inj (hw0.symm.trans hy)
        repeat' (first | (k_end; exact cmap_end (by assumption) (by assumption) off0 (src_led (by k_mem))) | (k_unfold; (try dsimp only)) | walk1 | (dsimp only; walk1) | fail "no step")
        all_goals w_report
      case fi2 =>
        intro D3 h3 tk3 F' N' offD3
        (try dsimp only); (try k_fold)
        repeat' ((fail_if_success (with_reducible show wpAny _ _ (execs (Stmt.If (Expr.BoolOp _ _ _) _ _ _ :: _) _) _ _ _)); first | (k_unfold; (try dsimp only)) | walk1 | (dsimp only; walk1) | fail "no step")
        obtain ⟨y1, y2, y3, y4, y5, y6, y7, offZ2⟩ := (show Off1 D2 ([(D, lst ys), (L' + 1 + 1, oc1), (L' + 1, oc2), (P, penO C _ _ _ _ _), (S, instObj 405 dS), (dS, shD w k3 k4 T T2), (T, oT1)] ++ Z) from offD2)
        obtain ⟨z0, z1, z2, z3, z4, z5, z6, z7, offZ3⟩ := (show Off1 D3 ([(D2, lst vs1), (D, lst ys), (L' + 1 + 1, oc1), (L' + 1, oc2), (P, penO C _ _ _ _ _), (S, instObj 405 dS), (dS, shD w k3 k4 T T2), (T, oT1)] ++ Z) from offD3)
        dsimp only at y1 y2 y3 y4 y5 y6 y7 z0 z1 z2 z3 z4 z5 z6 z7
        clear offD2 offD3
        have hws : ∀ x ∈ ws1, x = .none ∨ ∃ i t, x = .int i t := hpa.cells.worth
        obtain ⟨hlv1, hlv2⟩ := hpa.len
        by_cases h4 : ys.length = 4
        · have hm4 := mn_four hlen1 h4 (by assumption)
          subst hm4
          rcases Classical.em (Value.none ∈ ws1) with hno | hno
          · have hb : (ws1.any fun v => match v with | .none => true | _ => false) = true := List.any_eq_true.mpr ⟨_, hno, rfl⟩
            repeat' (first | (k_end; exact lawbox_end (due := none) G hl (by assumption) (by assumption) (by k_mem) (by k_mem) (by k_mem) (by k_mem) (by k_mem) ⟨by k_ne, by k_ne, by k_ne, by k_ne⟩ hd1 hTb1 ext0 (.inl (box_bad (by k_mem) ⟨by k_ne, by k_ne, by k_ne, by k_ne⟩ hpa.cells hZ (fun q hq => by repeat (first | exact hq | refine List.Mem.tail _ ?_)) ext_refl (.inr hno) (by omega))) (.inl ⟨rfl, rfl⟩) (by omega) (by omega) (by omega) (by omega) (by omega)) | (k_unfold; (try dsimp only)) | walk1 | (dsimp only; walk1) | fail "no step")
            all_goals w_report
          · obtain ⟨w0, w1, w2, w3, rfl⟩ := four (hlv2.trans h4)
            obtain ⟨v0, v1, v2, v3, rfl⟩ := four (hlv1.trans h4)
            obtain ⟨a0, t0, rfl⟩ := (hws w0 (by simp)).resolve_left fun e => hno (by simp [e])
            obtain ⟨a1, t1, rfl⟩ := (hws w1 (by simp)).resolve_left fun e => hno (by simp [e])
            obtain ⟨a2, t2, rfl⟩ := (hws w2 (by simp)).resolve_left fun e => hno (by simp [e])
            obtain ⟨a3, t3, rfl⟩ := (hws w3 (by simp)).resolve_left fun e => hno (by simp [e])
            have hb : (([.int a0 t0, .int a1 t1, .int a2 t2, .int a3 t3] : List Value).any fun v => match v with | .none => true | _ => false) = false := rfl
            repeat' (first | (k_end; exact lawbox_end (due := some (min a0 a2, min a1 a3, max a0 a2, max a1 a3)) G hl (by assumption) (by assumption) (by k_mem) (by k_mem) (by k_mem) (by k_mem) (by k_mem) ⟨by k_ne, by k_ne, by k_ne, by k_ne⟩ hd1 hTb1 ext0 (.inl (box_good (by k_mem) ⟨by k_ne, by k_ne, by k_ne, by k_ne⟩ hpa.cells hZ (fun q hq => by repeat (first | exact hq | refine List.Mem.tail _ ?_)) ext_refl)) (due_good (by k_mem) ⟨by k_ne, by k_ne, by k_ne, by k_ne⟩ (by assumption) (by assumption) (by assumption) (by assumption)) (by omega) (by omega) (by omega) (by omega) (by omega)) | (k_end; exact lawbox_end (due := some (min a0 a2, min a1 a3, max a0 a2, max a1 a3)) G hl (by assumption) (by assumption) (by k_mem) (by k_mem) (by k_mem) (by k_mem) (by k_mem) ⟨by k_ne, by k_ne, by k_ne, by k_ne⟩ (by assumption) (by assumption) (fun i x e => ext_stored hTb1 i x (ext0 i x e)) (box_tab hTb1 (by k_mem) (by k_mem) (by k_mem) (off_new (by assumption) (by k_mem) (by k_mem) (by k_mem) (by k_mem)) (box_good (by k_mem) ⟨by k_ne, by k_ne, by k_ne, by k_ne⟩ hpa.cells hZ (fun q hq => by repeat (first | exact hq | refine List.Mem.tail _ ?_)) (ext_stored hTb1))) (due_good (by k_mem) ⟨by k_ne, by k_ne, by k_ne, by k_ne⟩ (by assumption) (by assumption) (by assumption) (by assumption)) (by omega) (by omega) (by omega) (by omega) (by omega)) | (k_unfold; (try dsimp only)) | walk1 | (dsimp only; walk1) | fail "no step")
            all_goals w_report
        · repeat' (first | (k_end; exact lawbox_end (due := none) G hl (by assumption) (by assumption) (by k_mem) (by k_mem) (by k_mem) (by k_mem) (by k_mem) ⟨by k_ne, by k_ne, by k_ne, by k_ne⟩ hd1 hTb1 ext0 (.inl (box_bad (by k_mem) ⟨by k_ne, by k_ne, by k_ne, by k_ne⟩ hpa.cells hZ (fun q hq => by repeat (first | exact hq | refine List.Mem.tail _ ?_)) ext_refl (.inl (by omega)) (by omega))) (.inl ⟨rfl, rfl⟩) (by omega) (by omega) (by omega) (by omega) (by omega)) | (k_unfold; (try dsimp only)) | walk1 | (dsimp only; walk1) | fail "no step")
          all_goals w_report
end
end
section
theorem rg_Isi : True := by
  k_with_none
  (k_with "omA" => (first | (with_reducible (first | exact And.left ‹_› | exact And.left (And.right ‹_›) | exact And.left (And.right (And.right ‹_›)) | exact And.left (And.right (And.right (And.right ‹_›))) | exact And.left (And.right (And.right (And.right (And.right ‹_›)))) | exact And.left (And.right (And.right (And.right (And.right (And.right ‹_›))))) | exact And.left (And.right (And.right (And.right (And.right (And.right (And.right ‹_›)))))) | exact And.left (And.right (And.right (And.right (And.right (And.right (And.right (And.right ‹_›))))))) | exact And.left (And.right (And.right (And.right (And.right (And.right (And.right (And.right (And.right ‹_›)))))))) | exact And.left (And.right (And.right (And.right (And.right (And.right (And.right (And.right (And.right (And.right ‹_›))))))))) | exact And.left (And.right (And.right (And.right (And.right (And.right (And.right (And.right (And.right (And.right (And.right ‹_›)))))))))) | exact And.left (And.right (And.right (And.right (And.right (And.right (And.right (And.right (And.right (And.right (And.right (And.right ‹_›))))))))))) | exact And.left (And.right (And.right (And.right (And.right (And.right (And.right (And.right (And.right (And.right (And.right (And.right (And.right ‹_›)))))))))))) | exact And.left (And.right (And.right (And.right (And.right (And.right (And.right (And.right (And.right (And.right (And.right (And.right (And.right (And.right ‹_›))))))))))))) | exact And.left (And.right (And.right (And.right (And.right (And.right (And.right (And.right (And.right (And.right (And.right (And.right (And.right (And.right (And.right ‹_›)))))))))))))) | exact And.left (And.right (And.right (And.right (And.right (And.right (And.right (And.right (And.right (And.right (And.right (And.right (And.right (And.right (And.right (And.right ‹_›))))))))))))))) | exact And.left (And.right (And.right (And.right (And.right (And.right (And.right (And.right (And.right (And.right (And.right (And.right (And.right (And.right (And.right (And.right (And.right ‹_›)))))))))))))))) | exact And.right ‹_› | exact And.right (And.right ‹_›) | exact And.right (And.right (And.right ‹_›)) | exact And.right (And.right (And.right (And.right ‹_›))) | exact And.right (And.right (And.right (And.right (And.right ‹_›)))))) | fail))
  (k_with "omC" => (first | decide | fail))
  (k_with "omU" => (first | (k_extra "omC") | (with_reducible (first | exact o_le ‹_› (by decide) | exact o_lel ‹_› (by decide) | exact o_mul ‹_› (by decide) (by decide) | exact o_mull ‹_› (by decide) (by decide))) | ((with_reducible refine o_chl ‹_› ?_); k_extra "omU") | ((with_reducible refine o_addc ?_); k_extra "omU") | ((with_reducible refine o_subc ?_); k_extra "omU") | ((with_reducible refine o_subv ‹_› ?_); k_extra "omU") | ((with_reducible refine o_add2 ‹_› ?_); k_extra "omU") | ((with_reducible refine o_add2l ‹_› ?_); k_extra "omU") | ((with_reducible refine o_addl ?_); k_extra "omU") | ((with_reducible refine o_addm ‹_› (by decide) ?_); k_extra "omU") | fail))
  (k_with "omL" => (first | (k_extra "omC") | (with_reducible (first | exact o_ge ‹_› (by decide) | exact o_gel ‹_› (by decide) | exact o_gmul ‹_› (by decide) (by decide))) | ((with_reducible refine o_gaddc ?_); k_extra "omL") | ((with_reducible refine o_gsubc ?_); k_extra "omL") | ((with_reducible refine o_gsubv ‹_› ?_); k_extra "omL") | ((with_reducible refine o_gsubvl ‹_› ?_); k_extra "omL") | ((with_reducible refine o_gadd2 ‹_› ?_); k_extra "omL") | ((with_reducible refine o_gaddl ?_); k_extra "omL") | ((with_reducible refine o_gaddm ‹_› (by decide) ?_); k_extra "omL") | fail))
  (k_with "omR" => (first | (with_reducible (first | exact o_self (by decide))) | ((with_reducible refine o_ch ‹_› ?_); k_extra "omR") | ((with_reducible refine o_addch ?_); k_extra "omR") | fail))
  (k_with "omZ" => (first | (k_extra "omR") | (k_extra "omU") | (k_extra "omL") | fail))
  (k_with "omX" => (first | decide | (k_extra "omZ") | (with_reducible (first | exact Int.le_refl _ | exact Nat.le_refl _ | exact o_nle ‹_› (by decide) | exact o_nlt ‹_› (by decide) | exact o_nlel ‹_› (by decide))) | ((with_reducible refine o_ltc ?_); k_extra "omZ") | ((with_reducible refine o_gtc ?_); k_extra "omZ") | (with_reducible (first | exact o_iffn ‹_› ‹_› | exact o_neql ‹_› (by decide) | exact o_neqi ‹_› (by decide))) | ((with_reducible show _ < _); (first | (with_reducible exact Iff.mp ‹_› ‹_›) | k_extra "omA")) | ((repeat (rename _ ≠ _ => hz; clear hz)); (repeat (rename _ ≠ _ ∧ _ => hz; clear hz)); omega +splitDisjunctions) | fail))
  (k_with "omN" => (first | (with_reducible (first | exact o_n1 | exact o_n1' | exact o_ne ‹_› | exact o_ne' ‹_› | exact o_lt ‹_› | exact o_gt ‹_› | exact o_ne (by k_extra "omA") | exact o_ne' (by k_extra "omA") | exact o_lt (by k_extra "omA") | exact o_gt (by k_extra "omA") | exact o_lts1 (by k_extra "omA") | exact o_lts1' (by k_extra "omA") | exact o_lts2 (by k_extra "omA") | exact o_lts2' (by k_extra "omA") | exact o_gt2 ‹_› (by k_extra "omA") | exact o_lt2 ‹_› (by k_extra "omA"))) | fail))
  (k_with "om" => (first | with_reducible assumption | ((first | (with_reducible show _ ≤ _) | (with_reducible show _ < _)); k_extra "omX") | ((with_reducible show _ = _ → False); k_extra "omN") | fail))
  trivial
open PySem PySem.W PyProof.Rows PySem.Calls
theorem reg_isi : PySem.Challenge.rw_nn0125_01 = PySem.Challenge.rw_nn0125_01 ∧ KX = KX := by k_fill; exact ⟨rfl, rfl⟩
section
variable {w : World} {h : Heap} {a da : Addr} {o : Obj}
theorem isino_int {i : Int} {k : Tok} : IsiNo w h (.int i k) 289 := fun A E Q s k X hQ => by
  k_dflt (refine' kia_one kitx_int X trivial ?ee ?nb ?_; (case ee => kit_is); (case nb => kit_nb); exact hQ)
theorem isino_bool {b : Bool} : IsiNo w h (.bool b) 289 := fun A E Q s k X hQ => by
  k_dflt (refine' kia_one kitx_bool X trivial ?ee ?nb ?_; (case ee => kit_is); (case nb => kit_nb); exact hQ)
theorem isino_none : IsiNo w h .none 289 := fun A E Q s k X hQ => by
  k_dflt (refine' kia_one kitx_none X trivial ?ee ?nb ?_; (case ee => kit_is); (case nb => kit_nb); exact hQ)
theorem isino_list {xs : Array Value} {n : Nat} (m : h.get? a = some (listOf xs n)) : IsiNo w h (.ref a) 289 := fun A E Q s k X hQ => by
  k_dflt (refine' kia_one kitx_list X ⟨_, k _ _ m, rfl⟩ ?ee ?nb ?_; (case ee => kit_is); (case nb => kit_nb); exact hQ)
theorem isino_dict (m : h.get? a = some o) (e : o.cls = .type "dict") : IsiNo w h (.ref a) 289 := fun A E Q s k X hQ => by
  k_dflt (refine' kia_one kitx_dict X ⟨_, k _ _ m, e⟩ ?ee ?nb ?_; (case ee => kit_is); (case nb => kit_nb); exact hQ)
theorem inst_here {h : Heap} {x C dx : Addr} {od : Obj} (h1 : h.get? x = some (instObj C dx)) (h2 : h.get? dx = some od) : InstAt h x (instObj C dx) C (some od) := ⟨h1, rfl, rfl, h2⟩
theorem isino_dec (m : h.get? a = some (instObj 155 da)) (m2 : h.get? da = some o) : IsiNo w h (.ref a) 289 := fun A E Q s k X hQ => by
  k_dflt (refine' kia_one (kitx_own ?k4 ?k5 ?k6 ?k7 ?k8 ?k9) X (inst_here (k _ _ m) (k _ _ m2)) ?ee ?nb ?_; (case ee => kit_is); (case nb => kit_nb); (case k4 => k_is); (case k5 => k_is); (case k6 => k_is); (case k7 => k_is); (case k8 => k_is); (case k9 => k_is); exact hQ)
theorem isino_name (m : h.get? a = some (instObj 218 da)) (m2 : h.get? da = some o) : IsiNo w h (.ref a) 289 := fun A E Q s k X hQ => by
  k_dflt (refine' kia_one (kitx_own ?k4 ?k5 ?k6 ?k7 ?k8 ?k9) X (inst_here (k _ _ m) (k _ _ m2)) ?ee ?nb ?_; (case ee => kit_is); (case nb => kit_nb); (case k4 => k_is); (case k5 => k_is); (case k6 => k_is); (case k7 => k_is); (case k8 => k_is); (case k9 => k_is); exact hQ)
theorem isino_string (m : h.get? a = some (instObj 240 da)) (m2 : h.get? da = some o) : IsiNo w h (.ref a) 289 := fun A E Q s k X hQ => by
  k_dflt (refine' kia_one (kitx_own ?k4 ?k5 ?k6 ?k7 ?k8 ?k9) X (inst_here (k _ _ m) (k _ _ m2)) ?ee ?nb ?_; (case ee => kit_is); (case nb => kit_nb); (case k4 => k_is); (case k5 => k_is); (case k6 => k_is); (case k7 => k_is); (case k8 => k_is); (case k9 => k_is); exact hQ)
end
end
section
theorem rg_Fault : True := by
  k_with_none
  (k_with "omA" => (first | (with_reducible (first | exact And.left ‹_› | exact And.left (And.right ‹_›) | exact And.left (And.right (And.right ‹_›)) | exact And.left (And.right (And.right (And.right ‹_›))) | exact And.left (And.right (And.right (And.right (And.right ‹_›)))) | exact And.left (And.right (And.right (And.right (And.right (And.right ‹_›))))) | exact And.left (And.right (And.right (And.right (And.right (And.right (And.right ‹_›)))))) | exact And.left (And.right (And.right (And.right (And.right (And.right (And.right (And.right ‹_›))))))) | exact And.left (And.right (And.right (And.right (And.right (And.right (And.right (And.right (And.right ‹_›)))))))) | exact And.left (And.right (And.right (And.right (And.right (And.right (And.right (And.right (And.right (And.right ‹_›))))))))) | exact And.left (And.right (And.right (And.right (And.right (And.right (And.right (And.right (And.right (And.right (And.right ‹_›)))))))))) | exact And.left (And.right (And.right (And.right (And.right (And.right (And.right (And.right (And.right (And.right (And.right (And.right ‹_›))))))))))) | exact And.left (And.right (And.right (And.right (And.right (And.right (And.right (And.right (And.right (And.right (And.right (And.right (And.right ‹_›)))))))))))) | exact And.left (And.right (And.right (And.right (And.right (And.right (And.right (And.right (And.right (And.right (And.right (And.right (And.right (And.right ‹_›))))))))))))) | exact And.left (And.right (And.right (And.right (And.right (And.right (And.right (And.right (And.right (And.right (And.right (And.right (And.right (And.right (And.right ‹_›)))))))))))))) | exact And.left (And.right (And.right (And.right (And.right (And.right (And.right (And.right (And.right (And.right (And.right (And.right (And.right (And.right (And.right (And.right ‹_›))))))))))))))) | exact And.left (And.right (And.right (And.right (And.right (And.right (And.right (And.right (And.right (And.right (And.right (And.right (And.right (And.right (And.right (And.right (And.right ‹_›)))))))))))))))) | exact And.right ‹_› | exact And.right (And.right ‹_›) | exact And.right (And.right (And.right ‹_›)) | exact And.right (And.right (And.right (And.right ‹_›))) | exact And.right (And.right (And.right (And.right (And.right ‹_›)))))) | fail))
  (k_with "omC" => (first | decide | fail))
  (k_with "omU" => (first | (k_extra "omC") | (with_reducible (first | exact o_le ‹_› (by decide) | exact o_lel ‹_› (by decide) | exact o_mul ‹_› (by decide) (by decide) | exact o_mull ‹_› (by decide) (by decide))) | ((with_reducible refine o_chl ‹_› ?_); k_extra "omU") | ((with_reducible refine o_addc ?_); k_extra "omU") | ((with_reducible refine o_subc ?_); k_extra "omU") | ((with_reducible refine o_subv ‹_› ?_); k_extra "omU") | ((with_reducible refine o_add2 ‹_› ?_); k_extra "omU") | ((with_reducible refine o_add2l ‹_› ?_); k_extra "omU") | ((with_reducible refine o_addl ?_); k_extra "omU") | ((with_reducible refine o_addm ‹_› (by decide) ?_); k_extra "omU") | fail))
  (k_with "omL" => (first | (k_extra "omC") | (with_reducible (first | exact o_ge ‹_› (by decide) | exact o_gel ‹_› (by decide) | exact o_gmul ‹_› (by decide) (by decide))) | ((with_reducible refine o_gaddc ?_); k_extra "omL") | ((with_reducible refine o_gsubc ?_); k_extra "omL") | ((with_reducible refine o_gsubv ‹_› ?_); k_extra "omL") | ((with_reducible refine o_gsubvl ‹_› ?_); k_extra "omL") | ((with_reducible refine o_gadd2 ‹_› ?_); k_extra "omL") | ((with_reducible refine o_gaddl ?_); k_extra "omL") | ((with_reducible refine o_gaddm ‹_› (by decide) ?_); k_extra "omL") | fail))
  (k_with "omR" => (first | (with_reducible (first | exact o_self (by decide))) | ((with_reducible refine o_ch ‹_› ?_); k_extra "omR") | ((with_reducible refine o_addch ?_); k_extra "omR") | fail))
  (k_with "omZ" => (first | (k_extra "omR") | (k_extra "omU") | (k_extra "omL") | fail))
  (k_with "omX" => (first | decide | (k_extra "omZ") | (with_reducible (first | exact Int.le_refl _ | exact Nat.le_refl _ | exact o_nle ‹_› (by decide) | exact o_nlt ‹_› (by decide) | exact o_nlel ‹_› (by decide))) | ((with_reducible refine o_ltc ?_); k_extra "omZ") | ((with_reducible refine o_gtc ?_); k_extra "omZ") | (with_reducible (first | exact o_iffn ‹_› ‹_› | exact o_neql ‹_› (by decide) | exact o_neqi ‹_› (by decide))) | ((with_reducible show _ < _); (first | (with_reducible exact Iff.mp ‹_› ‹_›) | k_extra "omA")) | ((repeat (rename _ ≠ _ => hz; clear hz)); (repeat (rename _ ≠ _ ∧ _ => hz; clear hz)); omega +splitDisjunctions) | fail))
  (k_with "omN" => (first | (with_reducible (first | exact o_n1 | exact o_n1' | exact o_ne ‹_› | exact o_ne' ‹_› | exact o_lt ‹_› | exact o_gt ‹_› | exact o_ne (by k_extra "omA") | exact o_ne' (by k_extra "omA") | exact o_lt (by k_extra "omA") | exact o_gt (by k_extra "omA") | exact o_lts1 (by k_extra "omA") | exact o_lts1' (by k_extra "omA") | exact o_lts2 (by k_extra "omA") | exact o_lts2' (by k_extra "omA") | exact o_gt2 ‹_› (by k_extra "omA") | exact o_lt2 ‹_› (by k_extra "omA"))) | fail))
  (k_with "om" => (first | with_reducible assumption | ((first | (with_reducible show _ ≤ _) | (with_reducible show _ < _)); k_extra "omX") | ((with_reducible show _ = _ → False); k_extra "omN") | fail))
  trivial
open PySem PySem.W PySem.W.X PyProof.Rows PySem.Calls
theorem reg_fault : PySem.Challenge.rw_nn0125_01 = PySem.Challenge.rw_nn0125_01 ∧ KX = KX := by k_fill; exact ⟨rfl, rfl⟩
abbrev faultO (d t : Addr) : Obj := { cls := .ref 59, dict := some d, data := .fields #[.ref t, .none, .none, .none, .bool false, .none] }
abbrev faultT (x : Value) (n : Nat) : Obj := { cls := .type "tuple", data := .seq #[x] n }
def MadeFault (s : Shared) (r : Value) (s' : Shared) : Prop :=
  ∃ e d t x n h' tk, r = .ref e ∧ s' = { s with heap := h', toks := tk } ∧ (∀ b o, s.heap.get? b = some o → h'.get? b = some o) ∧ s.heap.get? e = none ∧ h'.get? e = some (faultO d t) ∧ s.heap.get? t = none ∧ h'.get? t = some (faultT x n)
abbrev Ac : Around := { handled := none, depth := 600, frames := none, guards := none, units := 5000 }
theorem made_of {s : Shared} {h : Heap} {news : List (Addr × Obj)} {e d t : Addr} {x : Value} {n tk : Nat} (D : Mem s.heap h [] news) (m : (e, faultO d t) ∈ news) (m2 : (t, faultT x n) ∈ news) : MadeFault s (.ref e) { s with heap := h, toks := tk } :=
  ⟨e, d, t, x, n, h, tk, rfl, rfl, fun b o q => D.keep b o q (by rw [Bool.or_eq_true]; exact .inr rfl), (D.nw _ m).2, (D.nw _ m).1, (D.nw _ m2).2, (D.nw _ m2).1⟩
noncomputable def lB : List (Str × Nat × Value) := ("__name__", 1, (.str "builtins" 160)) :: ("__doc__", 2, (.builtin "builtins.__doc__:str#opaque")) :: ("__package__", 3, (.builtin "builtins.__package__:str#opaque")) :: ("__loader__", 4, (.builtin "builtins.__loader__:shared#opaque")) :: ("__spec__", 5, (.builtin "builtins.__spec__#opaque")) :: ("__build_class__", 6, (.builtin "__build_class__")) :: ("__import__", 7, (.builtin "__import__")) :: ("abs", 8, (.builtin "abs")) :: ("all", 9, (.builtin "all")) :: ("any", 10, (.builtin "any")) :: ("ascii", 11, (.builtin "ascii")) :: ("bin", 12, (.builtin "bin")) :: ("breakpoint", 13, (.builtin "breakpoint")) :: ("callable", 14, (.builtin "callable")) :: ("chr", 15, (.builtin "chr")) :: ("compile", 16, (.builtin "compile")) :: ("delattr", 17, (.builtin "delattr")) :: ("dir", 18, (.builtin "dir")) :: ("divmod", 19, (.builtin "divmod")) :: ("eval", 20, (.builtin "eval")) :: ("exec", 21, (.builtin "exec")) :: ("format", 22, (.builtin "format")) :: ("getattr", 23, (.builtin "getattr")) :: ("globals", 24, (.builtin "globals")) :: ("hasattr", 25, (.builtin "hasattr")) :: ("hash", 26, (.builtin "hash")) :: ("hex", 27, (.builtin "hex")) :: ("id", 28, (.builtin "id")) :: ("input", 29, (.builtin "input")) :: ("isinstance", 30, (.builtin "isinstance")) :: ("issubclass", 31, (.builtin "issubclass")) :: ("iter", 32, (.builtin "iter")) :: ("aiter", 33, (.builtin "aiter")) :: ("len", 34, (.builtin "len")) :: ("locals", 35, (.builtin "locals")) :: ("max", 36, (.builtin "max")) :: ("min", 37, (.builtin "min")) :: ("next", 38, (.builtin "next")) :: ("anext", 39, (.builtin "anext")) :: ("oct", 40, (.builtin "oct")) :: ("ord", 41, (.builtin "ord")) :: ("pow", 42, (.builtin "pow")) :: ("print", 43, (.builtin "print")) :: ("repr", 44, (.builtin "repr")) :: ("round", 45, (.builtin "round")) :: ("setattr", 46, (.builtin "setattr")) :: ("sorted", 47, (.builtin "sorted")) :: ("sum", 48, (.builtin "sum")) :: ("vars", 49, (.builtin "vars")) :: ("None", 50, .none) :: ("Ellipsis", 51, .ellipsis) :: ("NotImplemented", 52, .notImplemented) :: ("False", 53, (.bool false)) :: ("True", 54, (.bool true)) :: ("bool", 55, (.type "bool")) :: ("memoryview", 56, (.type "memoryview")) :: ("bytearray", 57, (.type "bytearray")) :: ("bytes", 58, (.type "bytes")) :: ("classmethod", 59, (.type "classmethod")) :: ("complex", 60, (.type "complex")) :: ("dict", 61, (.type "dict")) :: ("enumerate", 62, (.type "enumerate")) :: ("filter", 63, (.type "filter")) :: ("float", 64, (.type "float")) :: ("frozenset", 65, (.type "frozenset")) :: ("property", 66, (.type "property")) :: ("int", 67, (.type "int")) :: ("list", 68, (.type "list")) :: ("map", 69, (.type "map")) :: ("object", 70, (.type "object")) :: ("range", 71, (.type "range")) :: ("reversed", 72, (.type "reversed")) :: ("set", 73, (.type "set")) :: ("slice", 74, (.type "slice")) :: ("staticmethod", 75, (.type "staticmethod")) :: ("str", 76, (.type "str")) :: ("super", 77, (.type "super")) :: ("tuple", 78, (.type "tuple")) :: ("type", 79, (.type "type")) :: ("zip", 80, (.type "zip")) :: ("__debug__", 81, (.bool true)) :: ("BaseException", 82, (.type "BaseException")) :: ("BaseExceptionGroup", 83, (.type "BaseExceptionGroup")) :: ("Exception", 84, (.type "Exception")) :: ("GeneratorExit", 85, (.type "GeneratorExit")) :: ("KeyboardInterrupt", 86, (.type "KeyboardInterrupt")) :: ("SystemExit", 87, (.type "SystemExit")) :: ("ArithmeticError", 88, (.type "ArithmeticError")) :: ("AssertionError", 89, (.type "AssertionError")) :: ("AttributeError", 90, (.type "AttributeError")) :: ("BufferError", 91, (.type "BufferError")) :: ("EOFError", 92, (.type "EOFError")) :: ("ImportError", 93, (.type "ImportError")) :: ("LookupError", 94, (.type "LookupError")) :: ("MemoryError", 95, (.type "MemoryError")) :: ("NameError", 96, (.type "NameError")) :: ("OSError", 97, (.type "OSError")) :: ("ReferenceError", 98, (.type "ReferenceError")) :: ("RuntimeError", 99, (.type "RuntimeError")) :: ("StopAsyncIteration", 100, (.type "StopAsyncIteration")) :: ("StopIteration", 101, (.type "StopIteration")) :: ("SyntaxError", 102, (.type "SyntaxError")) :: ("SystemError", 103, (.type "SystemError")) :: ("TypeError", 104, (.type "TypeError")) :: ("ValueError", 105, (.type "ValueError")) :: ("Warning", 106, (.type "Warning")) :: ("FloatingPointError", 107, (.type "FloatingPointError")) :: ("OverflowError", 108, (.type "OverflowError")) :: ("ZeroDivisionError", 109, (.type "ZeroDivisionError")) :: ("BytesWarning", 110, (.type "BytesWarning")) :: ("DeprecationWarning", 111, (.type "DeprecationWarning")) :: ("EncodingWarning", 112, (.type "EncodingWarning")) :: ("FutureWarning", 113, (.type "FutureWarning")) :: ("ImportWarning", 114, (.type "ImportWarning")) :: ("PendingDeprecationWarning", 115, (.type "PendingDeprecationWarning")) :: ("ResourceWarning", 116, (.type "ResourceWarning")) :: ("RuntimeWarning", 117, (.type "RuntimeWarning")) :: ("SyntaxWarning", 118, (.type "SyntaxWarning")) :: ("UnicodeWarning", 119, (.type "UnicodeWarning")) :: ("UserWarning", 120, (.type "UserWarning")) :: ("BlockingIOError", 121, (.type "BlockingIOError")) :: ("ChildProcessError", 122, (.type "ChildProcessError")) :: ("ConnectionError", 123, (.type "ConnectionError")) :: ("FileExistsError", 124, (.type "FileExistsError")) :: ("FileNotFoundError", 125, (.type "FileNotFoundError")) :: ("InterruptedError", 126, (.type "InterruptedError")) :: ("IsADirectoryError", 127, (.type "IsADirectoryError")) :: ("NotADirectoryError", 128, (.type "NotADirectoryError")) :: ("PermissionError", 129, (.type "PermissionError")) :: ("ProcessLookupError", 130, (.type "ProcessLookupError")) :: ("TimeoutError", 131, (.type "TimeoutError")) :: ("IndentationError", 132, (.type "IndentationError")) :: ("_IncompleteInputError", 133, (.type "_IncompleteInputError")) :: ("IndexError", 134, (.type "IndexError")) :: ("KeyError", 135, (.type "KeyError")) :: ("ModuleNotFoundError", 136, (.type "ModuleNotFoundError")) :: ("NotImplementedError", 137, (.type "NotImplementedError")) :: ("PythonFinalizationError", 138, (.type "PythonFinalizationError")) :: ("RecursionError", 139, (.type "RecursionError")) :: ("UnboundLocalError", 140, (.type "UnboundLocalError")) :: ("UnicodeError", 141, (.type "UnicodeError")) :: ("BrokenPipeError", 142, (.type "BrokenPipeError")) :: ("ConnectionAbortedError", 143, (.type "ConnectionAbortedError")) :: ("ConnectionRefusedError", 144, (.type "ConnectionRefusedError")) :: ("ConnectionResetError", 145, (.type "ConnectionResetError")) :: ("TabError", 146, (.type "TabError")) :: ("UnicodeDecodeError", 147, (.type "UnicodeDecodeError")) :: ("UnicodeEncodeError", 148, (.type "UnicodeEncodeError")) :: ("UnicodeTranslateError", 149, (.type "UnicodeTranslateError")) :: ("ExceptionGroup", 150, (.type "ExceptionGroup")) :: ("EnvironmentError", 151, (.type "OSError")) :: ("IOError", 152, (.type "OSError")) :: ("open", 153, (.builtin "open")) :: ("quit", 154, (.builtin "builtins.quit#opaque")) :: ("exit", 155, (.builtin "builtins.exit#opaque")) :: ("copyright", 156, (.builtin "builtins.copyright#opaque")) :: ("credits", 157, (.builtin "builtins.credits#opaque")) :: ("license", 158, (.builtin "builtins.license#opaque")) :: ("help", 159, (.builtin "builtins.help#opaque")) :: []
noncomputable def lG : List (Str × Nat × Value) := ("__name__", 165, (.str "law_nn0125_01" 752)) :: ("__doc__", 166, .none) :: ("__package__", 167, .none) :: ("__loader__", 168, (.builtin "__main__.__loader__#opaque")) :: ("__spec__", 169, .none) :: ("__annotations__", 170, (.ref 6)) :: ("__builtins__", 171, (.ref 4)) :: ("__file__", 173, (.str "/claim/cut.py" 172)) :: ("__cached__", 174, .none) :: ("_wall", 193, (.ref 21)) :: ("PaperError", 235, (.ref 46)) :: ("TreeFault", 251, (.ref 59)) :: ("Decimal", 370, (.ref 155)) :: ("sign_text", 377, (.ref 166)) :: ("sign_of", 384, (.ref 173)) :: ("decimal_of", 391, (.ref 180)) :: ("at_one_scale", 402, (.ref 187)) :: ("least", 411, (.ref 194)) :: ("greatest", 420, (.ref 201)) :: ("MOST_HOPS", 424, (.int (30) 423)) :: ("Name", 453, (.ref 218)) :: ("String", 484, (.ref 240)) :: ("Stream", 515, (.ref 261)) :: ("Reference", 553, (.ref 289)) :: ("kind_of", 560, (.ref 300)) :: ("is_number", 567, (.ref 307)) :: ("told_plain", 575, (.ref 314)) :: ("told", 581, (.ref 319)) :: ("told_objects", 582, (.ref 319)) :: ("Lookup", 634, (.ref 351)) :: ("Shelf", 697, (.ref 405)) :: ("Page", 730, (.ref 424)) :: ("four_numbers", 736, (.ref 433)) :: ("box", 742, (.ref 438)) :: ("rotation", 751, (.ref 445)) :: ("_law_pen", 759, (.ref 450)) :: ("_law_draw", 772, (.ref 457)) :: ("_law_pick", 780, (.ref 464)) :: ("_law_number", 793, (.ref 471)) :: ("_law_box", 799, (.ref 476)) :: ("_law_heard", 806, (.ref 483)) :: ("_law_thousandths", 812, (.ref 488)) :: ("_law_cut", 821, (.ref 495)) :: ("_law_box_holds", 835, (.ref 502)) :: ("_law_turn_holds", 849, (.ref 509)) :: ("law", 859, (.ref 516)) :: []
section
local macro_rules | `(tactic| x_close) => `(tactic| (refine' made_of ?D ?m ?m2; (case D => assumption); (case m => (k_dflt k_mem)); (case m2 => (k_dflt k_mem))))
set_option maxRecDepth 100000
set_option maxHeartbeats 8000000
theorem fault_spec (prog : Program) (w : World) (s : Shared) (X : (KX w.params).In s.heap) (x : Str) (k : Tok) : wpAny (model prog w) Ac (call (.ref 59) [.str x k]) (MadeFault s) Never s := by
  have e0 : s.heap.get? (nat_lit 0) = some ⟨.type "dict", none, .dict (entsOf w.params lB).toArray 159, #[]⟩ := X _ _ (by kernel_rfl)
  have e3 : s.heap.get? (nat_lit 3) = some ⟨.type "dict", none, .dict (entsOf w.params lG).toArray 46, #[]⟩ := X _ _ (by kernel_rfl)
  x_run
end
end
section
theorem rg_Fail : True := by
  k_with_none
  (k_with "omA" => (first | (with_reducible (first | exact And.left ‹_› | exact And.left (And.right ‹_›) | exact And.left (And.right (And.right ‹_›)) | exact And.left (And.right (And.right (And.right ‹_›))) | exact And.left (And.right (And.right (And.right (And.right ‹_›)))) | exact And.left (And.right (And.right (And.right (And.right (And.right ‹_›))))) | exact And.left (And.right (And.right (And.right (And.right (And.right (And.right ‹_›)))))) | exact And.left (And.right (And.right (And.right (And.right (And.right (And.right (And.right ‹_›))))))) | exact And.left (And.right (And.right (And.right (And.right (And.right (And.right (And.right (And.right ‹_›)))))))) | exact And.left (And.right (And.right (And.right (And.right (And.right (And.right (And.right (And.right (And.right ‹_›))))))))) | exact And.left (And.right (And.right (And.right (And.right (And.right (And.right (And.right (And.right (And.right (And.right ‹_›)))))))))) | exact And.left (And.right (And.right (And.right (And.right (And.right (And.right (And.right (And.right (And.right (And.right (And.right ‹_›))))))))))) | exact And.left (And.right (And.right (And.right (And.right (And.right (And.right (And.right (And.right (And.right (And.right (And.right (And.right ‹_›)))))))))))) | exact And.left (And.right (And.right (And.right (And.right (And.right (And.right (And.right (And.right (And.right (And.right (And.right (And.right (And.right ‹_›))))))))))))) | exact And.left (And.right (And.right (And.right (And.right (And.right (And.right (And.right (And.right (And.right (And.right (And.right (And.right (And.right (And.right ‹_›)))))))))))))) | exact And.left (And.right (And.right (And.right (And.right (And.right (And.right (And.right (And.right (And.right (And.right (And.right (And.right (And.right (And.right (And.right ‹_›))))))))))))))) | exact And.left (And.right (And.right (And.right (And.right (And.right (And.right (And.right (And.right (And.right (And.right (And.right (And.right (And.right (And.right (And.right (And.right ‹_›)))))))))))))))) | exact And.right ‹_› | exact And.right (And.right ‹_›) | exact And.right (And.right (And.right ‹_›)) | exact And.right (And.right (And.right (And.right ‹_›))) | exact And.right (And.right (And.right (And.right (And.right ‹_›)))))) | fail))
  (k_with "omC" => (first | decide | fail))
  (k_with "omU" => (first | (k_extra "omC") | (with_reducible (first | exact o_le ‹_› (by decide) | exact o_lel ‹_› (by decide) | exact o_mul ‹_› (by decide) (by decide) | exact o_mull ‹_› (by decide) (by decide))) | ((with_reducible refine o_chl ‹_› ?_); k_extra "omU") | ((with_reducible refine o_addc ?_); k_extra "omU") | ((with_reducible refine o_subc ?_); k_extra "omU") | ((with_reducible refine o_subv ‹_› ?_); k_extra "omU") | ((with_reducible refine o_add2 ‹_› ?_); k_extra "omU") | ((with_reducible refine o_add2l ‹_› ?_); k_extra "omU") | ((with_reducible refine o_addl ?_); k_extra "omU") | ((with_reducible refine o_addm ‹_› (by decide) ?_); k_extra "omU") | fail))
  (k_with "omL" => (first | (k_extra "omC") | (with_reducible (first | exact o_ge ‹_› (by decide) | exact o_gel ‹_› (by decide) | exact o_gmul ‹_› (by decide) (by decide))) | ((with_reducible refine o_gaddc ?_); k_extra "omL") | ((with_reducible refine o_gsubc ?_); k_extra "omL") | ((with_reducible refine o_gsubv ‹_› ?_); k_extra "omL") | ((with_reducible refine o_gsubvl ‹_› ?_); k_extra "omL") | ((with_reducible refine o_gadd2 ‹_› ?_); k_extra "omL") | ((with_reducible refine o_gaddl ?_); k_extra "omL") | ((with_reducible refine o_gaddm ‹_› (by decide) ?_); k_extra "omL") | fail))
  (k_with "omR" => (first | (with_reducible (first | exact o_self (by decide))) | ((with_reducible refine o_ch ‹_› ?_); k_extra "omR") | ((with_reducible refine o_addch ?_); k_extra "omR") | fail))
  (k_with "omZ" => (first | (k_extra "omR") | (k_extra "omU") | (k_extra "omL") | fail))
  (k_with "omX" => (first | decide | (k_extra "omZ") | (with_reducible (first | exact Int.le_refl _ | exact Nat.le_refl _ | exact o_nle ‹_› (by decide) | exact o_nlt ‹_› (by decide) | exact o_nlel ‹_› (by decide))) | ((with_reducible refine o_ltc ?_); k_extra "omZ") | ((with_reducible refine o_gtc ?_); k_extra "omZ") | (with_reducible (first | exact o_iffn ‹_› ‹_› | exact o_neql ‹_› (by decide) | exact o_neqi ‹_› (by decide))) | ((with_reducible show _ < _); (first | (with_reducible exact Iff.mp ‹_› ‹_›) | k_extra "omA")) | ((repeat (rename _ ≠ _ => hz; clear hz)); (repeat (rename _ ≠ _ ∧ _ => hz; clear hz)); omega +splitDisjunctions) | fail))
  (k_with "omN" => (first | (with_reducible (first | exact o_n1 | exact o_n1' | exact o_ne ‹_› | exact o_ne' ‹_› | exact o_lt ‹_› | exact o_gt ‹_› | exact o_ne (by k_extra "omA") | exact o_ne' (by k_extra "omA") | exact o_lt (by k_extra "omA") | exact o_gt (by k_extra "omA") | exact o_lts1 (by k_extra "omA") | exact o_lts1' (by k_extra "omA") | exact o_lts2 (by k_extra "omA") | exact o_lts2' (by k_extra "omA") | exact o_gt2 ‹_› (by k_extra "omA") | exact o_lt2 ‹_› (by k_extra "omA"))) | fail))
  (k_with "om" => (first | with_reducible assumption | ((first | (with_reducible show _ ≤ _) | (with_reducible show _ < _)); k_extra "omX") | ((with_reducible show _ = _ → False); k_extra "omN") | fail))
  trivial
open PySem PySem.W PyProof.Rows PySem.Calls
theorem reg_fail : PySem.Challenge.rw_nn0125_01 = PySem.Challenge.rw_nn0125_01 ∧ KX = KX := by k_fill; exact ⟨rfl, rfl⟩
abbrev frs (l : List Env) : List Addr := l.filterMap (·.frame)
def Fail (base : Heap) (l : List Env) (s : Shared) (e : Value) (s' : Shared) : Prop :=
  ∃ a t vs h' tk, e = .ref a ∧ s' = { s with heap := h', toks := tk } ∧ RaisedS base s.heap l a (.ref 59) t vs [] h' ∧ s.heap.UpToSlots h'
section
variable {M : Model} {A : Around} {E : Value → Shared → Prop} {w : World} {p : Program} {loose : List Str} {mean : ExcName → Option Value} {mg mb : Str → Option Value} {base : Heap} {outer : List Env} {s : Shared} {led all : Led} {g h₁ : Heap} {L e : Addr} {m : Str → Option Value} {env : Env} {tk tk₂ : Nat}
theorem frs_in {h : Heap} {l : List Env} (_ : h.FunFrames base l) : ∀ env ∈ l, ∀ b, env.frame = some b → b ∈ frs l := fun env he b hb => List.mem_filterMap.mpr ⟨env, he, hb⟩
theorem old_ne (G : Ground s led g) (F : Fr g L h₁ m) (N : News g L h₁ all) (hk : ∀ q ∈ led, q ∈ all) {b : Addr} {o : Obj} (hs : ∀ q ∈ led, s.heap.get? q.1 = some q.2) (e : s.heap.get? b = some o) : b ≠ L := by
  rintro rfl
  by_cases hb : b ∈ led.map (·.1)
  · obtain ⟨q, hq, e2⟩ := List.mem_map.mp hb
    exact (N q (hk q hq)).2.1 e2
  · have := G.keep b o e hb
    rw [kts_self F] at this; cases this
theorem old_still (G : Ground s led g) (F : Fr g L h₁ m) (N : News g L h₁ all) (hl : LedOk base outer s.heap led) (hk : ∀ q ∈ led, q ∈ all) : ∀ b o, s.heap.get? b = some o → h₁.get? b = some o :=
  fun b o e => keep_of (mt := []) G hl F N (fun q hq _ => hk q hq) b o e (fun h => nomatch h)
theorem fail_first {E' : Value → Shared → Prop} (W : Wd w p loose mean mg mb base) (G : Ground s led g) (hl : LedOk base outer s.heap led) (B : Below A base outer g) (F : Fr g L h₁ m) (N : News g L h₁ all) (hk : ∀ q ∈ led, q ∈ all) (he : EnvAt env L)
    (hm : MadeFault { s with heap := h₁, toks := tk } (.ref e) { s with heap := h₂, toks := tk₂ }) :
    wpAny M (A.deeper env) (leaving env (.ref e)) (fun _ s'' => Fail base outer s (.ref e) s'') E' { s with heap := h₂, toks := tk₂ } := by
  obtain ⟨e', d, t, x, n, h', tk', e1, e2, k, hn, hf, hnt, hft⟩ := hm
  cases e1
  have e3 : h' = h₂ := (congrArg Shared.heap e2).symm
  subst e3
  dsimp only at k hn hnt
  have old := old_still G F N hl hk
  have C := cx_of (h := h₁) (env := env) W B F he
  have hin := frs_in C.frames
  have st : base.StaysIn (hideAll h₁ (frs (env :: outer))) := fun b o q => hideAll_get _ (C.stays b o q) fun hm => by
    rw [(C.frames.mem hm).1] at q; cases q
  have hen : (hideAll h₁ (frs (env :: outer))).get? e = none := by
    cases q : (hideAll h₁ (frs (env :: outer))).get? e with
    | none => rfl
    | some o => have := of_hideAll _ q; rw [hn] at this; cases this
  have htn : (hideAll h₁ (frs (env :: outer))).get? t = none := by
    cases q : (hideAll h₁ (frs (env :: outer))).get? t with
    | none => rfl
    | some o => have := of_hideAll _ q; rw [hnt] at this; cases this
  refine wpAny_leaving_firstW (base := hideAll h₁ (frs (env :: outer))) (a0 := .ref t) (Around.frames_deeper B.stack) ((funFrames_hide C.frames hin).of_keeps fun b o hb _ => ⟨o, k b o hb, rfl⟩) he.1 hf (fun b o hb => k b o (of_hideAll _ hb)) hen rfl rfl rfl fun h'' hL => ?_
  obtain ⟨k1, ⟨_, _, k2⟩, k3, k4⟩ := hL
  refine ⟨e, t, [x], h'', tk₂, rfl, rfl, ⟨⟨_, st, fun b o q hb => hideAll_get _ (old b o q) fun hm => ?_, (fun _ hq => nomatch hq), ⟨k1, hen, k2, k3⟩, htn⟩, Heap.TupAt.of_slots ⟨_, n, hft, rfl, rfl⟩ k4⟩, ((Heap.UpToSlots.of_keeps old).trans (Heap.UpToSlots.of_keeps k)).trans k4⟩
  obtain ⟨env', he', hf'⟩ := List.mem_filterMap.mp hm
  rcases List.mem_cons.mp he' with rfl | he'
  · rw [he.1] at hf'
    exact old_ne G F N hk (fun q hq => (hl q hq).1) q (Option.some.inj hf').symm
  · exact hb (List.mem_filterMap.mpr ⟨env', he', hf'⟩)
theorem fail_on {E' : Value → Shared → Prop} {v : Value} {s' : Shared} (G : Ground s led g) (hl : LedOk base outer s.heap led) (B : Below A base outer g) (F : Fr g L h₁ m) (N : News g L h₁ all) (hk : ∀ q ∈ led, q ∈ all) (he : EnvAt env L)
    (f : Fail base (env :: outer) { s with heap := h₁, toks := tk } v s') :
    wpAny M (A.deeper env) (leaving env v) (fun _ s'' => Fail base outer s v s'') E' s' := by
  obtain ⟨a, t, vs, h', tk', rfl, rfl, ⟨⟨B', st, kB, _, fl, hnt⟩, htup⟩, up⟩ := f
  have old := old_still G F N hl hk
  refine wpAny_leaves_onW (Around.frames_deeper B.stack) he.1 fl fun h'' x1 x2 => ?_
  refine ⟨a, t, vs, h'', tk', rfl, rfl, ⟨⟨B', st, fun b o q hb => kB b o (old b o q) fun hm => ?_, (fun _ hq => nomatch hq), x1, hnt⟩, htup.of_slots x2⟩, ((Heap.UpToSlots.of_keeps old).trans up).trans x2⟩
  obtain ⟨env', he', hf'⟩ := List.mem_filterMap.mp hm
  rcases List.mem_cons.mp he' with rfl | he'
  · rw [he.1] at hf'
    exact old_ne G F N hk (fun q hq => (hl q hq).1) q (Option.some.inj hf').symm
  · exact hb (List.mem_filterMap.mpr ⟨env', he', hf'⟩)
end
section
variable {prog : Program} {w : World} {A : Around} {E : Value → Shared → Prop} {s : Shared} {env : Env}
theorem raise_fault {M : Model} {x : Sem Value} {Q : Flow → Shared → Prop} (hh : A.handled = none)
    (h : wpAny M A x (fun v s₁ => ∃ e d t, v = .ref e ∧ (KX w.params).In s₁.heap ∧ s₁.heap.get? e = some (faultO d t) ∧ E (.ref e) s₁) E s) : wpAny M A (raiseStmt env (some x) none) Q E s := by
  unfold raiseStmt
  refine wpAny_bind (wpAny_mono h (fun v s₁ h₁ => ?_) fun _ _ x => x)
  obtain ⟨e, d, t, rfl, hX, he, hE⟩ := h₁
  obtain ⟨nm, q', N, bs, bm, hdct, sn, sub, ab, col, dd, k0, k1, k2, k3, k5, newId, hC, hbase, hbT⟩ := kts_cls (C := 59) (T := "BaseException") hX (by kts_isx)
  have hcB : (Value.ref 59 :: bm).contains (.type "BaseException") = true := by rw [List.contains_cons, hbase, Bool.or_true]
  obtain ⟨hp, g, d', tk, os⟩ := s₁
  repeat (first | with_reducible refine wpAny_loadPart_at he ?_ | with_reducible refine wpAny_loadPart_at hC ?_ | (with_reducible refine wpAny_isSubtype_exc hC ?_; rw [hcB]) | wp_step)
  exact wpAny_raiseNew_none hh hE
theorem Raise_fault {call : Expr} {pos : Pos} {Q : Flow → Shared → Prop} (hh : A.handled = none)
    (h : wpAny (model prog w) A (eval call env) (fun v s₁ => ∃ e d t, v = .ref e ∧ (KX w.params).In s₁.heap ∧ s₁.heap.get? e = some (faultO d t) ∧ E (.ref e) s₁) E s) :
    wpAny (model prog w) A (exec (.Raise (some call) none pos) env) Q E s := by
  rw [arm_exec_Raise]
  simp only [evalOpt, Option.map]
  refine wpAny_bind (wpAny_standAt ?_)
  refine raise_fault (w := w) hh ?_
  exact wpAny_bind (wpAny_mono h (fun v s₃ h₃ => wpAny_bind (wpAny_standAt (wpAny_pure h₃))) fun _ _ x => x)
end
end
section
theorem rg_Use3 : True := by
  k_with_none
  (k_with "omA" => (first | (with_reducible (first | exact And.left ‹_› | exact And.left (And.right ‹_›) | exact And.left (And.right (And.right ‹_›)) | exact And.left (And.right (And.right (And.right ‹_›))) | exact And.left (And.right (And.right (And.right (And.right ‹_›)))) | exact And.left (And.right (And.right (And.right (And.right (And.right ‹_›))))) | exact And.left (And.right (And.right (And.right (And.right (And.right (And.right ‹_›)))))) | exact And.left (And.right (And.right (And.right (And.right (And.right (And.right (And.right ‹_›))))))) | exact And.left (And.right (And.right (And.right (And.right (And.right (And.right (And.right (And.right ‹_›)))))))) | exact And.left (And.right (And.right (And.right (And.right (And.right (And.right (And.right (And.right (And.right ‹_›))))))))) | exact And.left (And.right (And.right (And.right (And.right (And.right (And.right (And.right (And.right (And.right (And.right ‹_›)))))))))) | exact And.left (And.right (And.right (And.right (And.right (And.right (And.right (And.right (And.right (And.right (And.right (And.right ‹_›))))))))))) | exact And.left (And.right (And.right (And.right (And.right (And.right (And.right (And.right (And.right (And.right (And.right (And.right (And.right ‹_›)))))))))))) | exact And.left (And.right (And.right (And.right (And.right (And.right (And.right (And.right (And.right (And.right (And.right (And.right (And.right (And.right ‹_›))))))))))))) | exact And.left (And.right (And.right (And.right (And.right (And.right (And.right (And.right (And.right (And.right (And.right (And.right (And.right (And.right (And.right ‹_›)))))))))))))) | exact And.left (And.right (And.right (And.right (And.right (And.right (And.right (And.right (And.right (And.right (And.right (And.right (And.right (And.right (And.right (And.right ‹_›))))))))))))))) | exact And.left (And.right (And.right (And.right (And.right (And.right (And.right (And.right (And.right (And.right (And.right (And.right (And.right (And.right (And.right (And.right (And.right ‹_›)))))))))))))))) | exact And.right ‹_› | exact And.right (And.right ‹_›) | exact And.right (And.right (And.right ‹_›)) | exact And.right (And.right (And.right (And.right ‹_›))) | exact And.right (And.right (And.right (And.right (And.right ‹_›)))))) | fail))
  (k_with "omC" => (first | decide | fail))
  (k_with "omU" => (first | (k_extra "omC") | (with_reducible (first | exact o_le ‹_› (by decide) | exact o_lel ‹_› (by decide) | exact o_mul ‹_› (by decide) (by decide) | exact o_mull ‹_› (by decide) (by decide))) | ((with_reducible refine o_chl ‹_› ?_); k_extra "omU") | ((with_reducible refine o_addc ?_); k_extra "omU") | ((with_reducible refine o_subc ?_); k_extra "omU") | ((with_reducible refine o_subv ‹_› ?_); k_extra "omU") | ((with_reducible refine o_add2 ‹_› ?_); k_extra "omU") | ((with_reducible refine o_add2l ‹_› ?_); k_extra "omU") | ((with_reducible refine o_addl ?_); k_extra "omU") | ((with_reducible refine o_addm ‹_› (by decide) ?_); k_extra "omU") | fail))
  (k_with "omL" => (first | (k_extra "omC") | (with_reducible (first | exact o_ge ‹_› (by decide) | exact o_gel ‹_› (by decide) | exact o_gmul ‹_› (by decide) (by decide))) | ((with_reducible refine o_gaddc ?_); k_extra "omL") | ((with_reducible refine o_gsubc ?_); k_extra "omL") | ((with_reducible refine o_gsubv ‹_› ?_); k_extra "omL") | ((with_reducible refine o_gsubvl ‹_› ?_); k_extra "omL") | ((with_reducible refine o_gadd2 ‹_› ?_); k_extra "omL") | ((with_reducible refine o_gaddl ?_); k_extra "omL") | ((with_reducible refine o_gaddm ‹_› (by decide) ?_); k_extra "omL") | fail))
  (k_with "omR" => (first | (with_reducible (first | exact o_self (by decide))) | ((with_reducible refine o_ch ‹_› ?_); k_extra "omR") | ((with_reducible refine o_addch ?_); k_extra "omR") | fail))
  (k_with "omZ" => (first | (k_extra "omR") | (k_extra "omU") | (k_extra "omL") | fail))
  (k_with "omX" => (first | decide | (k_extra "omZ") | (with_reducible (first | exact Int.le_refl _ | exact Nat.le_refl _ | exact o_nle ‹_› (by decide) | exact o_nlt ‹_› (by decide) | exact o_nlel ‹_› (by decide))) | ((with_reducible refine o_ltc ?_); k_extra "omZ") | ((with_reducible refine o_gtc ?_); k_extra "omZ") | (with_reducible (first | exact o_iffn ‹_› ‹_› | exact o_neql ‹_› (by decide) | exact o_neqi ‹_› (by decide))) | ((with_reducible show _ < _); (first | (with_reducible exact Iff.mp ‹_› ‹_›) | k_extra "omA")) | ((repeat (rename _ ≠ _ => hz; clear hz)); (repeat (rename _ ≠ _ ∧ _ => hz; clear hz)); omega +splitDisjunctions) | fail))
  (k_with "omN" => (first | (with_reducible (first | exact o_n1 | exact o_n1' | exact o_ne ‹_› | exact o_ne' ‹_› | exact o_lt ‹_› | exact o_gt ‹_› | exact o_ne (by k_extra "omA") | exact o_ne' (by k_extra "omA") | exact o_lt (by k_extra "omA") | exact o_gt (by k_extra "omA") | exact o_lts1 (by k_extra "omA") | exact o_lts1' (by k_extra "omA") | exact o_lts2 (by k_extra "omA") | exact o_lts2' (by k_extra "omA") | exact o_gt2 ‹_› (by k_extra "omA") | exact o_lt2 ‹_› (by k_extra "omA"))) | fail))
  (k_with "om" => (first | with_reducible assumption | ((first | (with_reducible show _ ≤ _) | (with_reducible show _ < _)); k_extra "omX") | ((with_reducible show _ = _ → False); k_extra "omN") | fail))
  trivial
open PySem PySem.W PyProof.Rows PySem.Calls
def SeenV (w : World) (A : Led) (v wv : Value) : Prop := (v = .none ∧ wv = .none) ∨ (BadV A v ∧ wv = .none) ∨ ∃ t p k, NumV w A v t p ∧ wv = .int (wth t p) k
def isN (wv : Value) : Bool := match wv with | .none => false | _ => true
def DecV (w : World) (A : Led) (v : Value) (t p : Int) : Prop := 0 ≤ p ∧ p ≤ 3 ∧ -1000000 ≤ t ∧ t ≤ 1000000 ∧ ∃ a da k1 k2 k3 k4, v = .ref a ∧ (a, instObj 155 da) ∈ A ∧ (da, decD w k1 k2 k3 k4 t p) ∈ A
theorem DecV.mono {w : World} {A B : Led} {v : Value} {t p : Int} (h : DecV w A v t p) (s : ∀ q ∈ A, q ∈ B) : DecV w B v t p := by
  obtain ⟨h1, h2, h3, h4, a, da, k1, k2, k3, k4, e, m1, m2⟩ := h
  exact ⟨h1, h2, h3, h4, a, da, k1, k2, k3, k4, e, s _ m1, s _ m2⟩
theorem SeenV.mono {w : World} {A B : Led} {v wv : Value} (h : SeenV w A v wv) (s : ∀ q ∈ A, q ∈ B) : SeenV w B v wv := by
  rcases h with h | ⟨h, e⟩ | ⟨t, p, k, h, e⟩
  · exact .inl h
  · exact .inr (.inl ⟨h.mono s, e⟩)
  · exact .inr (.inr ⟨t, p, k, h.mono s, e⟩)
section
variable {w : World} {A : Led} {h : Heap} {v : Value}
theorem isino_num {t p : Int} (x : NumV w A v t p) (s : ∀ q ∈ A, h.get? q.1 = some q.2) : IsiNo w h v 289 := by
  obtain ⟨_, _, _, _, ⟨k, rfl, _⟩ | ⟨a, da, k1, k2, k3, k4, rfl, m1, m2⟩⟩ := x
  · exact isino_int
  · exact isino_dec (s _ m1) (s _ m2)
theorem isino_bad (x : BadV A v) (s : ∀ q ∈ A, h.get? q.1 = some q.2) : IsiNo w h v 289 := by
  rcases x with rfl | ⟨a, da, o, rfl, m1, m2⟩ | ⟨a, da, o, rfl, m1, m2⟩ | ⟨a, xs, n, rfl, m1⟩
  · exact isino_bool
  · exact isino_name (s _ m1) (s _ m2)
  · exact isino_string (s _ m1) (s _ m2)
  · exact isino_list (s _ m1)
theorem isino_box {kvs : List (Int × Value)} {due : Option (Int × Int × Int × Int)} (x : BoxL w A kvs v due) (s : ∀ q ∈ A, h.get? q.1 = some q.2) : IsiNo w h v 289 := by
  rcases x with ⟨a, o, rfl, m, e, _⟩ | ⟨a, n, vs, ws, rfl, m, _⟩ | ⟨a, n, v0, v1, v2, v3, a0, a1, a2, a3, t0, t1, t2, t3, rfl, m, _⟩
  · exact isino_dict (s _ m) e
  · exact isino_list (s _ m)
  · exact isino_list (s _ m)
end
section
variable {w : World} {p : Program} {loose : List Str} {mean : ExcName → Option Value} {mg mb : Str → Option Value} {base : Heap} {outer : List Env} {s : Shared} {A A₀ : Around} {h₀ : Heap} {L : Addr} {m : Str → Option Value} {env : Env} {Q : Value → Shared → Prop} {E : Value → Shared → Prop} {news Z : Led}
theorem use_same {t : Sem Value} {r0 : Value} (c : wpAny (model PW w) A t (Ok s [] (fun nw r => nw = [] ∧ r = r0)) Never s) (F : Fr h₀ L s.heap m) (N : News h₀ L s.heap news)
    (k : ∀ h' tk, Fr h₀ L h' m → News h₀ L h' news → Q r0 { s with heap := h', toks := tk }) : wpAny (model PW w) A t Q E s :=
  use0 c F N fun r h' tk nw hp F' N' _ => by obtain ⟨rfl, rfl⟩ := hp; exact k h' tk F' N'
section
variable {S dS T T2 : Addr} {k3 k4 : Tok} {oT : Obj} {kvs : List (Int × Value)} {n : Int}
theorem use_fetch {v : Value} {i : Int} {t : Addr} {k0 : Tok} {v' : Value} {nn : Nat} (W : Wd w p loose mean mg mb base) (B : Below A₀ base outer h₀) (F : Fr h₀ L s.heap m) (N : News h₀ L s.heap news) (hk : EnvAt env L) (a1 : At A (env :: outer) 600 5000)
    (mS : (S, instObj 405 dS) ∈ news) (mdS : (dS, shD w k3 k4 T T2) ∈ news) (mT : (T, oT) ∈ news) (hd : oT.IsDictOf (intKind PW w) kvs) (lo : (T == sysModules) = false)
    (hr : RefV w Z v i) (sub : ∀ q ∈ Z, q ∈ news) (hv : valueAt kvs i = some (.ref t)) (ht : (t, tupO #[.int 0 k0, v'] nn) ∈ Z) (hno : IsiNo w s.heap v' 289)
    (k : ∀ h' tk, Fr h₀ L h' m → News h₀ L h' news → Q v' { s with heap := h', toks := tk }) : wpAny (model PW w) A (call (.ref 341) [.ref S, v]) Q E s := by
  obtain ⟨a, da, k1, k2, k5, k6, rfl, m1, m2⟩ := hr
  exact use_same (call_le (fetch_tab (gd := A.guards) (Nat.le_refl _) (Nat.le_refl _) (cx_of W B F hk) (N _ mS).1 (N _ mdS).1 (N _ mT).1 (N _ (sub _ m1)).1 (N _ (sub _ m2)).1 hd lo hv (N _ (sub _ ht)).1 hno) a1.h a1.d a1.f a1.u) F N k
theorem use_cell {v wv : Value} (W : Wd w p loose mean mg mb base) (B : Below A₀ base outer h₀) (F : Fr h₀ L s.heap m) (N : News h₀ L s.heap news) (hk : EnvAt env L) (a1 : At A (env :: outer) 600 5000)
    (mS : (S, instObj 405 dS) ∈ news) (mdS : (dS, shD w k3 k4 T T2) ∈ news) (mT : (T, oT) ∈ news) (hd : oT.IsDictOf (intKind PW w) kvs) (lo : (T == sysModules) = false) (hTb : Tb kvs n) (hn : n ≤ 899)
    (hc : CellV w Z kvs v wv) (sub : ∀ q ∈ Z, q ∈ news)
    (k : ∀ r h' tk, Fr h₀ L h' m → News h₀ L h' news → SeenV w Z r wv → Q r { s with heap := h', toks := tk }) : wpAny (model PW w) A (call (.ref 341) [.ref S, v]) Q E s := by
  have hs : ∀ q ∈ Z, s.heap.get? q.1 = some q.2 := fun q hq => (N q (sub q hq)).1
  rcases hc with ⟨⟨a, da, k1, k2, k5, k6, rfl, m1, m2⟩, rfl⟩ | ⟨hb, rfl⟩ | ⟨t, p', k', hn', rfl⟩ | ⟨i, t, v', k0, nn, n', p', k', h1, h2, h3, h4, rfl⟩
  · exact use_same (call_le (fetch_none (gd := A.guards) (Nat.le_refl _) (Nat.le_refl _) (cx_of W B F hk) (N _ mS).1 (N _ mdS).1 (N _ mT).1 (hs _ m1) (hs _ m2) hd lo (hTb.none (by omega))) a1.h a1.d a1.f a1.u) F N fun h' tk F' N' => k _ h' tk F' N' (.inl ⟨rfl, rfl⟩)
  · exact use_same (call_le (fetch_val (gd := A.guards) (Nat.le_refl _) (Nat.le_refl _) (cx_of W B F hk) (isino_bad hb hs)) a1.h a1.d a1.f a1.u) F N fun h' tk F' N' => k _ h' tk F' N' (.inr (.inl ⟨hb, rfl⟩))
  · exact use_same (call_le (fetch_val (gd := A.guards) (Nat.le_refl _) (Nat.le_refl _) (cx_of W B F hk) (isino_num hn' hs)) a1.h a1.d a1.f a1.u) F N fun h' tk F' N' => k _ h' tk F' N' (.inr (.inr ⟨t, p', k', hn', rfl⟩))
  · exact use_fetch W B F N hk a1 mS mdS mT hd lo h1 sub h2 h3 (isino_num h4 hs) fun h' tk F' N' => k _ h' tk F' N' (.inr (.inr ⟨n', p', k', h4, rfl⟩))
theorem use_box {v : Value} {due : Option (Int × Int × Int × Int)} (W : Wd w p loose mean mg mb base) (B : Below A₀ base outer h₀) (F : Fr h₀ L s.heap m) (N : News h₀ L s.heap news) (hk : EnvAt env L) (a1 : At A (env :: outer) 600 5000)
    (mS : (S, instObj 405 dS) ∈ news) (mdS : (dS, shD w k3 k4 T T2) ∈ news) (mT : (T, oT) ∈ news) (hd : oT.IsDictOf (intKind PW w) kvs) (lo : (T == sysModules) = false)
    (hc : BoxV w Z kvs v due) (sub : ∀ q ∈ Z, q ∈ news)
    (k : ∀ r h' tk, Fr h₀ L h' m → News h₀ L h' news → BoxL w Z kvs r due → Q r { s with heap := h', toks := tk }) : wpAny (model PW w) A (call (.ref 341) [.ref S, v]) Q E s := by
  have hs : ∀ q ∈ Z, s.heap.get? q.1 = some q.2 := fun q hq => (N q (sub q hq)).1
  rcases hc with hb | ⟨i, t, v', k0, nn, h1, h2, h3, h4⟩
  · exact use_same (call_le (fetch_val (gd := A.guards) (Nat.le_refl _) (Nat.le_refl _) (cx_of W B F hk) (isino_box hb hs)) a1.h a1.d a1.f a1.u) F N fun h' tk F' N' => k _ h' tk F' N' hb
  · exact use_fetch W B F N hk a1 mS mdS mT hd lo h1 sub h2 h3 (isino_box h4 hs) fun h' tk F' N' => k _ h' tk F' N' h4
end
theorem use_isnum {v wv : Value} (W : Wd w p loose mean mg mb base) (B : Below A₀ base outer h₀) (F : Fr h₀ L s.heap m) (N : News h₀ L s.heap news) (hk : EnvAt env L) (a1 : At A (env :: outer) 580 4900)
    (hc : SeenV w Z v wv) (sub : ∀ q ∈ Z, q ∈ news)
    (k : ∀ h' tk, Fr h₀ L h' m → News h₀ L h' news → Q (.bool (isN wv)) { s with heap := h', toks := tk }) : wpAny (model PW w) A (call (.ref 307) [v]) Q E s := by
  have l0 : LedOk base (env :: outer) s.heap [] := fun _ hq => nomatch hq
  have l1 : ∀ {a : Addr} {o : Obj}, (a, o) ∈ Z → LedOk base (env :: outer) s.heap [(a, o)] := fun m1 => led_of hk B F N (List.forall_mem_cons.mpr ⟨sub _ m1, fun _ hq => nomatch hq⟩)
  have l2 : ∀ {a b : Addr} {o o' : Obj}, (a, o) ∈ Z → (b, o') ∈ Z → LedOk base (env :: outer) s.heap [(a, o), (b, o')] := fun m1 m2 => led_of hk B F N (List.forall_mem_cons.mpr ⟨sub _ m1, List.forall_mem_cons.mpr ⟨sub _ m2, fun _ hq => nomatch hq⟩⟩)
  have C := cx_of W B F hk
  rcases hc with ⟨rfl, rfl⟩ | ⟨rfl | ⟨a, da, o, rfl, m1, m2⟩ | ⟨a, da, o, rfl, m1, m2⟩ | ⟨a, xs, n, rfl, m1⟩, rfl⟩ | ⟨t, p', k', ⟨_, _, _, _, ⟨k2, rfl, _⟩ | ⟨a, da, k1, k2, k3, k4, rfl, m1, m2⟩⟩, rfl⟩
  · exact use_same (call_le (isnum_none (gd := A.guards) (Nat.le_refl _) (Nat.le_refl _) C l0) a1.h a1.d a1.f a1.u) F N k
  · exact use_same (call_le (isnum_bool (gd := A.guards) (Nat.le_refl _) (Nat.le_refl _) C l0) a1.h a1.d a1.f a1.u) F N k
  · exact use_same (call_le (isnum_name (gd := A.guards) (Nat.le_refl _) (Nat.le_refl _) C (l2 m1 m2)) a1.h a1.d a1.f a1.u) F N k
  · exact use_same (call_le (isnum_string (gd := A.guards) (Nat.le_refl _) (Nat.le_refl _) C (l2 m1 m2)) a1.h a1.d a1.f a1.u) F N k
  · exact use_same (call_le (isnum_list (gd := A.guards) (Nat.le_refl _) (Nat.le_refl _) C (l1 m1)) a1.h a1.d a1.f a1.u) F N k
  · exact use_same (call_le (isnum_int (gd := A.guards) (Nat.le_refl _) (Nat.le_refl _) C l0) a1.h a1.d a1.f a1.u) F N k
  · exact use_same (call_le (isnum_dec (gd := A.guards) (Nat.le_refl _) (Nat.le_refl _) C (l2 m1 m2)) a1.h a1.d a1.f a1.u) F N k
theorem use_dofn {v : Value} {t p' : Int} (W : Wd w p loose mean mg mb base) (B : Below A₀ base outer h₀) (F : Fr h₀ L s.heap m) (N : News h₀ L s.heap news) (hk : EnvAt env L) (a1 : At A (env :: outer) 600 5000)
    (hc : NumV w Z v t p') (sub : ∀ q ∈ Z, q ∈ news)
    (k : ∀ r nw h' tk, Fr h₀ L h' m → News h₀ L h' (nw ++ news) → (∀ q ∈ nw, ∀ x ∈ news, x.1 ≠ q.1) → DecV w (nw ++ Z) r t p' → Q r { s with heap := h', toks := tk }) : wpAny (model PW w) A (call (.ref 180) [v]) Q E s := by
  obtain ⟨b1, b2, b3, b4, ⟨k2, rfl, rfl⟩ | ⟨a, da, k1, k2, k3, k4, rfl, m1, m2⟩⟩ := hc
  · refine use0 (call_le (dof_int (gd := A.guards) (Nat.le_refl _) (Nat.le_refl _) (cx_of W B F hk)) a1.h a1.d a1.f a1.u) F N fun r h' tk nw hp F' N' hd => ?_
    obtain ⟨a, da, k1, k2, k3, k4, rfl, rfl⟩ := hp
    exact k _ _ h' tk F' N' hd ⟨b1, b2, b3, b4, a, da, k1, k2, k3, k4, rfl, .head _, .tail _ (.head _)⟩
  · exact use_same (call_le (dof_dec (gd := A.guards) (Nat.le_refl _) (Nat.le_refl _) (cx_of W B F hk) (N _ (sub _ m1)).1 (N _ (sub _ m2)).1) a1.h a1.d a1.f a1.u) F N fun h' tk F' N' =>
      k _ [] h' tk F' N' (fun _ hq => nomatch hq) ⟨b1, b2, b3, b4, a, da, k1, k2, k3, k4, rfl, m1, m2⟩
end
end
section
theorem rg_Four : True := by
  k_with_none
  (k_with "omA" => (first | (with_reducible (first | exact And.left ‹_› | exact And.left (And.right ‹_›) | exact And.left (And.right (And.right ‹_›)) | exact And.left (And.right (And.right (And.right ‹_›))) | exact And.left (And.right (And.right (And.right (And.right ‹_›)))) | exact And.left (And.right (And.right (And.right (And.right (And.right ‹_›))))) | exact And.left (And.right (And.right (And.right (And.right (And.right (And.right ‹_›)))))) | exact And.left (And.right (And.right (And.right (And.right (And.right (And.right (And.right ‹_›))))))) | exact And.left (And.right (And.right (And.right (And.right (And.right (And.right (And.right (And.right ‹_›)))))))) | exact And.left (And.right (And.right (And.right (And.right (And.right (And.right (And.right (And.right (And.right ‹_›))))))))) | exact And.left (And.right (And.right (And.right (And.right (And.right (And.right (And.right (And.right (And.right (And.right ‹_›)))))))))) | exact And.left (And.right (And.right (And.right (And.right (And.right (And.right (And.right (And.right (And.right (And.right (And.right ‹_›))))))))))) | exact And.left (And.right (And.right (And.right (And.right (And.right (And.right (And.right (And.right (And.right (And.right (And.right (And.right ‹_›)))))))))))) | exact And.left (And.right (And.right (And.right (And.right (And.right (And.right (And.right (And.right (And.right (And.right (And.right (And.right (And.right ‹_›))))))))))))) | exact And.left (And.right (And.right (And.right (And.right (And.right (And.right (And.right (And.right (And.right (And.right (And.right (And.right (And.right (And.right ‹_›)))))))))))))) | exact And.left (And.right (And.right (And.right (And.right (And.right (And.right (And.right (And.right (And.right (And.right (And.right (And.right (And.right (And.right (And.right ‹_›))))))))))))))) | exact And.left (And.right (And.right (And.right (And.right (And.right (And.right (And.right (And.right (And.right (And.right (And.right (And.right (And.right (And.right (And.right (And.right ‹_›)))))))))))))))) | exact And.right ‹_› | exact And.right (And.right ‹_›) | exact And.right (And.right (And.right ‹_›)) | exact And.right (And.right (And.right (And.right ‹_›))) | exact And.right (And.right (And.right (And.right (And.right ‹_›)))))) | fail))
  (k_with "omC" => (first | decide | fail))
  (k_with "omU" => (first | (k_extra "omC") | (with_reducible (first | exact o_le ‹_› (by decide) | exact o_lel ‹_› (by decide) | exact o_mul ‹_› (by decide) (by decide) | exact o_mull ‹_› (by decide) (by decide))) | ((with_reducible refine o_chl ‹_› ?_); k_extra "omU") | ((with_reducible refine o_addc ?_); k_extra "omU") | ((with_reducible refine o_subc ?_); k_extra "omU") | ((with_reducible refine o_subv ‹_› ?_); k_extra "omU") | ((with_reducible refine o_add2 ‹_› ?_); k_extra "omU") | ((with_reducible refine o_add2l ‹_› ?_); k_extra "omU") | ((with_reducible refine o_addl ?_); k_extra "omU") | ((with_reducible refine o_addm ‹_› (by decide) ?_); k_extra "omU") | fail))
  (k_with "omL" => (first | (k_extra "omC") | (with_reducible (first | exact o_ge ‹_› (by decide) | exact o_gel ‹_› (by decide) | exact o_gmul ‹_› (by decide) (by decide))) | ((with_reducible refine o_gaddc ?_); k_extra "omL") | ((with_reducible refine o_gsubc ?_); k_extra "omL") | ((with_reducible refine o_gsubv ‹_› ?_); k_extra "omL") | ((with_reducible refine o_gsubvl ‹_› ?_); k_extra "omL") | ((with_reducible refine o_gadd2 ‹_› ?_); k_extra "omL") | ((with_reducible refine o_gaddl ?_); k_extra "omL") | ((with_reducible refine o_gaddm ‹_› (by decide) ?_); k_extra "omL") | fail))
  (k_with "omR" => (first | (with_reducible (first | exact o_self (by decide))) | ((with_reducible refine o_ch ‹_› ?_); k_extra "omR") | ((with_reducible refine o_addch ?_); k_extra "omR") | fail))
  (k_with "omZ" => (first | (k_extra "omR") | (k_extra "omU") | (k_extra "omL") | fail))
  (k_with "omX" => (first | decide | (k_extra "omZ") | (with_reducible (first | exact Int.le_refl _ | exact Nat.le_refl _ | exact o_nle ‹_› (by decide) | exact o_nlt ‹_› (by decide) | exact o_nlel ‹_› (by decide))) | ((with_reducible refine o_ltc ?_); k_extra "omZ") | ((with_reducible refine o_gtc ?_); k_extra "omZ") | (with_reducible (first | exact o_iffn ‹_› ‹_› | exact o_neql ‹_› (by decide) | exact o_neqi ‹_› (by decide))) | ((with_reducible show _ < _); (first | (with_reducible exact Iff.mp ‹_› ‹_›) | k_extra "omA")) | ((repeat (rename _ ≠ _ => hz; clear hz)); (repeat (rename _ ≠ _ ∧ _ => hz; clear hz)); omega +splitDisjunctions) | fail))
  (k_with "omN" => (first | (with_reducible (first | exact o_n1 | exact o_n1' | exact o_ne ‹_› | exact o_ne' ‹_› | exact o_lt ‹_› | exact o_gt ‹_› | exact o_ne (by k_extra "omA") | exact o_ne' (by k_extra "omA") | exact o_lt (by k_extra "omA") | exact o_gt (by k_extra "omA") | exact o_lts1 (by k_extra "omA") | exact o_lts1' (by k_extra "omA") | exact o_lts2 (by k_extra "omA") | exact o_lts2' (by k_extra "omA") | exact o_gt2 ‹_› (by k_extra "omA") | exact o_lt2 ‹_› (by k_extra "omA"))) | fail))
  (k_with "om" => (first | with_reducible assumption | ((first | (with_reducible show _ ≤ _) | (with_reducible show _ < _)); k_extra "omX") | ((with_reducible show _ = _ → False); k_extra "omN") | fail))
  trivial
open PySem PySem.W PyProof.Rows PySem.Calls PyProof.Rows.LCg
theorem reg_four : PySem.Challenge.rw_nn0125_01 = PySem.Challenge.rw_nn0125_01 ∧ KX = KX := by k_fill; exact ⟨rfl, rfl⟩
inductive FourPost (w : World) (Z : Led) (q : Int × Int × Int × Int) (nw : Led) (r : Value) : Prop
  | mk : ∀ e n r0 r1 r2 r3 t0 t1 t2 t3 p0 p1 p2 p3, r = .ref e → (e, listOf #[r0, r1, r2, r3] n) ∈ nw → DecV w (nw ++ Z) r0 t0 p0 → DecV w (nw ++ Z) r1 t1 p1 → DecV w (nw ++ Z) r2 t2 p2 → DecV w (nw ++ Z) r3 t3 p3 → q = (wth t0 p0, wth t1 p1, wth t2 p2, wth t3 p3) → FourPost w Z q nw r
theorem isi_list_dict {w : World} {A : Around} {E : Value → Shared → Prop} {Q : Value → Shared → Prop} {s : Shared} {h₀ : Heap} {L a : Addr} {news : Led} {o : Obj} (X : (KX w.params).In s.heap) (N : News h₀ L s.heap news) (hm : (a, o) ∈ news) (e : o.cls = .type "dict") (hQ : ∀ tk, Q (.bool false) { s with toks := tk }) :
    wpAny (model PW w) A (call (.builtin "isinstance") [.ref a, .type "list"]) Q E s := by
  k_dflt (refine' kia_one kitx_dict X ⟨_, (N _ hm).1, e⟩ ?ee ?nb ?_; (case ee => kit_is); (case nb => kit_nb); exact hQ)
theorem use_fault {w : World} {A : Around} {outer : List Env} {E : Value → Shared → Prop} {Q : Value → Shared → Prop} {s : Shared} {x : Str} {k : Tok} (X : (KX w.params).In s.heap) (a1 : At A outer 600 5000)
    (h : ∀ e h' tk, MadeFault s (.ref e) { s with heap := h', toks := tk } → Q (.ref e) { s with heap := h', toks := tk }) : wpAny (model PW w) A (call (.ref 59) [.str x k]) Q E s := by
  have c := fault_spec PW w s X x k
  have c' : wpAny (model PW w) A (call (.ref 59) [.str x k]) (MadeFault s) Never s := fun Γ p hΓ => c Γ p ⟨hΓ.1.trans a1.h, Nat.le_trans hΓ.2.1 a1.d, (fun l hl => nomatch hl), (fun g hg => nomatch hg), Nat.le_trans hΓ.2.2.2.2 a1.u⟩
  refine wpAny_mono c' (fun r s' hm => ?_) fun _ _ x => x.elim
  obtain ⟨e, d, t, x, n, h', tk, rfl, rfl, q⟩ := hm
  exact h e h' tk ⟨e, d, t, x, n, h', tk, rfl, rfl, q⟩
theorem boxL_list {w : World} {A : Led} {kvs : List (Int × Value)} {v : Value} {due : Option (Int × Int × Int × Int)} (h : BoxL w A kvs v due) : (∃ a o, v = .ref a ∧ (a, o) ∈ A ∧ o.cls = .type "dict" ∧ due = none) ∨
    ∃ a n vs ws, v = .ref a ∧ (a, listOf vs.toArray n) ∈ A ∧ Cells w A kvs vs ws ∧ vs.length ≤ 5 ∧ ((due = none ∧ (vs.length ≠ 4 ∨ .none ∈ ws)) ∨ ∃ a0 a1 a2 a3 t0 t1 t2 t3, ws = [.int a0 t0, .int a1 t1, .int a2 t2, .int a3 t3] ∧ due = some (min a0 a2, min a1 a3, max a0 a2, max a1 a3)) := by
  rcases h with h | ⟨a, n, vs, ws, e, m, c, b, h5, d⟩ | ⟨a, n, v0, v1, v2, v3, a0, a1, a2, a3, t0, t1, t2, t3, e, m, c, d⟩
  · exact .inl h
  · exact .inr ⟨a, n, vs, ws, e, m, c, h5, .inl ⟨d, b⟩⟩
  · exact .inr ⟨a, n, [v0, v1, v2, v3], _, e, m, c, by simp, .inr ⟨a0, a1, a2, a3, t0, t1, t2, t3, rfl, d⟩⟩
theorem Cells.at {w : World} {A : Led} {kvs : List (Int × Value)} {vs ws : List Value} (h : Cells w A kvs vs ws) : ∀ {i : Nat} {v : Value}, vs[i]? = some v → ∃ wv, ws[i]? = some wv ∧ CellV w A kvs v wv := by
  induction h with
  | nil => intro i v e; cases e
  | @cons v wv vs ws c _ ih =>
    intro i y e
    cases i with
    | zero => rw [List.getElem?_cons_zero] at e; cases e; exact ⟨wv, rfl, c⟩
    | succ i => rw [List.getElem?_cons_succ] at e; simpa using ih e
theorem Cells.len {w : World} {A : Led} {kvs : List (Int × Value)} {vs ws : List Value} (h : Cells w A kvs vs ws) : ws.length = vs.length := by
  induction h with
  | nil => rfl
  | cons _ _ ih => simp [ih]
def SeenL (w : World) (A : Led) (ws ys : List Value) : Prop := ∀ (j : Nat) (y x : Value), ys[j]? = some y → ws[j]? = some x → SeenV w A y x
theorem SeenL.snoc {w : World} {A : Led} {ws ys : List Value} {y x : Value} (h : SeenL w A ws ys) (hx : ws[ys.length]? = some x) (hy : SeenV w A y x) : SeenL w A ws (ys ++ [y]) := fun j z u e1 e2 => by
  by_cases hj : j < ys.length
  · rw [List.getElem?_append_left hj] at e1; exact h j z u e1 e2
  · rw [List.getElem?_append_right (by omega)] at e1
    have : j = ys.length := by
      cases q : j - ys.length with
      | zero => omega
      | succ k => rw [q] at e1; cases e1
    subst this
    rw [Nat.sub_self] at e1
    cases e1
    rw [hx] at e2; cases e2; exact hy
section
variable {M : Model} {A : Around} {E : Value → Shared → Prop} {w : World} {p : Program} {loose : List Str} {mean : ExcName → Option Value} {mg mb : Str → Option Value} {base : Heap} {outer : List Env} {s : Shared} {led all : Led} {g h₁ h₂ : Heap} {L e : Addr} {m : Str → Option Value} {env : Env} {tk tk₂ : Nat}
theorem raise_end {D : Prop} {E' : Value → Shared → Prop} (W : Wd w p loose mean mg mb base) (G : Ground s led g) (hl : LedOk base outer s.heap led) (B : Below A base outer g) (F : Fr g L h₁ m) (N : News g L h₁ all) (hk : ∀ q ∈ led, q ∈ all) (he : EnvAt env L) (hX : (KX w.params).In g)
    (hm : MadeFault { s with heap := h₁, toks := tk } (.ref e) { s with heap := h₂, toks := tk₂ }) (hD : D) :
    ∃ e' d t, Value.ref e = .ref e' ∧ (KX w.params).In h₂ ∧ h₂.get? e' = some (faultO d t) ∧ wpAny M (A.deeper env) (leaving env (.ref e')) (fun _ s'' => D ∧ Fail base outer s (.ref e') s'') E' { s with heap := h₂, toks := tk₂ } := by
  have hm' := hm
  obtain ⟨e', d, t, x, n, h', tk', e1, e2, k, hn, hf, _⟩ := hm
  cases e1
  have e3 : h' = h₂ := (congrArg Shared.heap e2).symm
  subst e3
  exact ⟨e, d, t, rfl, (hX.keeps F.keep).keeps k, hf, wpAny_mono (fail_first W G hl B F N hk he hm') (fun _ _ z => ⟨hD, z⟩) fun _ _ z => z⟩
end
theorem comp_still {prog : Program} {w : World} {A : Around} {s : Shared} {h₀ : Heap} {L : Addr} {m : Str → Option Value} {env : Env} {elt : Expr} {x : Str} {scope : Scope} {cl : List (Str × Addr)} {S : Led → Prop} {P : Nat → Value → Prop} {Fin : List Value → Led → Prop} {n : Nat} {N0 : Led} (Inv : List Value → Prop)
    (step : ∀ i ys v I oI C oC D m₂ h tk (E' : Value → Shared → Prop), i < n → ys.length = i → Inv ys → P i v → NsObj oC m₂ → m₂ x = some v → Fr h₀ L h m → News h₀ L h ((I, oI) :: (C, oC) :: (D, lst ys) :: N0) → Off3 I C D N0 → ((@Ne Nat I C) ∧ (@Ne Nat I D) ∧ (@Ne Nat C D)) →
      wpAny (model prog w) A (eval elt (compEnvC scope cl C env)) (CompEnd h₀ L m { s with heap := h, toks := tk } I oI C oC D (lst ys) S (fun y news' => Inv (ys ++ [y]) ∧ news' = N0)) E' { s with heap := h, toks := tk })
    (h0 : Inv []) (fin : ∀ ys, ys.length = n → Inv ys → Fin ys N0) : CompRest prog w A h₀ L m env elt x scope cl s S P Fin n 0 [] N0 := by
  refine comp_inv (fun i ys nw => nw = N0 ∧ ys.length = i ∧ Inv ys) ?_ ?_ n 0 [] N0 (Nat.add_zero _) ⟨rfl, rfl, h0⟩
  · rintro i ys news v I oI C oC D m₂ h tk E' hi ⟨rfl, hl, hI⟩ a1 a2 a3 a4 a5 a6 a7
    refine wpAny_mono (step i ys v I oI C oC D m₂ h tk E' hi hl hI a1 a2 a3 a4 a5 a6 a7) (fun y s₂ z => cend_mono z ?_) fun _ _ z => z
    rintro nw ⟨hI', rfl⟩
    exact ⟨rfl, by rw [List.length_append, hl]; rfl, hI'⟩
  · rintro ys news ⟨rfl, hl, hI⟩
    exact fin ys hl hI
theorem still_end2 {h₀ h' : Heap} {L I Ca D : Addr} {m : Str → Option Value} {s₁ : Shared} {oI oC : Obj} {ys : List Value} {S : Led → Prop} {N0 : Led} {y : Value} {tk : Nat} {Inv : List Value → Prop} (F : Fr h₀ L h' m) (N : News h₀ L h' ((I, oI) :: (Ca, oC) :: (D, lst ys) :: N0)) (off : Off3 I Ca D N0) (hS : S N0) (hI : Inv (ys ++ [y])) :
    CompEnd h₀ L m s₁ I oI Ca oC D (lst ys) S (fun y' news' => Inv (ys ++ [y']) ∧ news' = N0) y { s₁ with heap := h', toks := tk } := CompEnd.intro F N N0 (fun _ h => h) off hS ⟨hI, rfl⟩
theorem src_led2 {h₀ : Heap} {ax : Addr} {ys : List Value} {n : Nat} {news : Led} (h : (ax, listOf ys.toArray n) ∈ news) : SrcAt h₀ ax ys.toArray news := .inr ⟨_, h, rfl, _, rfl⟩
theorem bools_isN : ∀ ws : List Value, PyProof.Rows.LSm.BoolsAre (ws.map fun x => .bool (isN x)) (ws.map isN)
  | [] => .nil
  | _ :: r => .cons _ (bools_isN r)
theorem all_isN {prog : Program} {w : World} {A : Around} {E : Value → Shared → Prop} {Q : Value → Shared → Prop} {s : Shared} {h₀ : Heap} {L l : Addr} {m : Str → Option Value} {news : Led} {ws : List Value} {b : Bool} (F : Fr h₀ L s.heap m) (N : News h₀ L s.heap news) (hh : A.handled = none) (hm : (l, lst (ws.map fun x => .bool (isN x))) ∈ news) (hb : ws.all isN = b)
    (h : ∀ h' tk, Fr h₀ L h' m → News h₀ L h' news → Q (.bool b) { s with heap := h', toks := tk }) : wpAny (model prog w) A (call (.builtin "all") [.ref l]) Q E s := by
  refine PyProof.Rows.LSm.all_bools F N hh (News.isList N hm) (bools_isN ws) fun h' tk F' N' => ?_
  rw [show (ws.map isN).all id = b by rw [List.all_map]; exact hb]
  exact h h' tk F' N'
theorem all_bad {ws : List Value} (h : .none ∈ ws) : ws.all isN = false := by
  rw [List.all_eq_false]
  exact ⟨_, h, by decide⟩
section
variable {w : World} {p : Program} {loose : List Str} {mean : ExcName → Option Value} {mg mb : Str → Option Value} {base : Heap} {outer : List Env} {s : Shared} {A A₀ : Around} {h₀ : Heap} {L : Addr} {m : Str → Option Value} {env : Env} {Q : Value → Shared → Prop} {E : Value → Shared → Prop} {news Z : Led}
theorem use_least {l : Addr} {n : Nat} {v1 v2 : Value} {t1 p1 t2 p2 : Int} (W : Wd w p loose mean mg mb base) (B : Below A₀ base outer h₀) (F : Fr h₀ L s.heap m) (N : News h₀ L s.heap news) (hk : EnvAt env L) (a1 : At A (env :: outer) 560 4800)
    (ml : (l, listOf #[v1, v2] n) ∈ news) (d1 : DecV w Z v1 t1 p1) (d2 : DecV w Z v2 t2 p2) (sub : ∀ q ∈ Z, q ∈ news)
    (k : ∀ r t q h' tk, Fr h₀ L h' m → News h₀ L h' news → DecV w Z r t q → wth t q = min (wth t1 p1) (wth t2 p2) → Q r { s with heap := h', toks := tk }) : wpAny (model PW w) A (call (.ref 194) [.ref l]) Q E s := by
  have d1' := d1
  have d2' := d2
  obtain ⟨b1, b2, b3, b4, a, da, _, _, _, _, rfl, m1, m2⟩ := d1
  obtain ⟨b5, b6, b7, b8, b, db, _, _, _, _, rfl, m3, m4⟩ := d2
  refine use0 (call_le (least_ok (gd := A.guards) (Nat.le_refl _) (Nat.le_refl _) (cx_of W B F hk) (led_of hk B F N (by simp only [List.forall_mem_cons]; exact ⟨ml, sub _ m1, sub _ m2, sub _ m3, sub _ m4, fun _ hq => nomatch hq⟩)) b1 b2 b5 b6 b3 b4 b7 b8) a1.h a1.d a1.f a1.u) F N fun r h' tk nw hp F' N' _ => ?_
  obtain ⟨rfl, ⟨rfl, hle⟩ | ⟨rfl, hle⟩⟩ := hp
  · exact k _ _ _ h' tk F' N' d1' (by omega)
  · exact k _ _ _ h' tk F' N' d2' (by omega)
theorem use_greatest {l : Addr} {n : Nat} {v1 v2 : Value} {t1 p1 t2 p2 : Int} (W : Wd w p loose mean mg mb base) (B : Below A₀ base outer h₀) (F : Fr h₀ L s.heap m) (N : News h₀ L s.heap news) (hk : EnvAt env L) (a1 : At A (env :: outer) 560 4800)
    (ml : (l, listOf #[v1, v2] n) ∈ news) (d1 : DecV w Z v1 t1 p1) (d2 : DecV w Z v2 t2 p2) (sub : ∀ q ∈ Z, q ∈ news)
    (k : ∀ r t q h' tk, Fr h₀ L h' m → News h₀ L h' news → DecV w Z r t q → wth t q = max (wth t1 p1) (wth t2 p2) → Q r { s with heap := h', toks := tk }) : wpAny (model PW w) A (call (.ref 201) [.ref l]) Q E s := by
  have d1' := d1
  have d2' := d2
  obtain ⟨b1, b2, b3, b4, a, da, _, _, _, _, rfl, m1, m2⟩ := d1
  obtain ⟨b5, b6, b7, b8, b, db, _, _, _, _, rfl, m3, m4⟩ := d2
  refine use0 (call_le (greatest_ok (gd := A.guards) (Nat.le_refl _) (Nat.le_refl _) (cx_of W B F hk) (led_of hk B F N (by simp only [List.forall_mem_cons]; exact ⟨ml, sub _ m1, sub _ m2, sub _ m3, sub _ m4, fun _ hq => nomatch hq⟩)) b1 b2 b5 b6 b3 b4 b7 b8) a1.h a1.d a1.f a1.u) F N fun r h' tk nw hp F' N' _ => ?_
  obtain ⟨rfl, ⟨rfl, hle⟩ | ⟨rfl, hle⟩⟩ := hp
  · exact k _ _ _ h' tk F' N' d1' (by omega)
  · exact k _ _ _ h' tk F' N' d2' (by omega)
end
def DecL (w : World) (A : Led) (ws zs : List Value) : Prop := ∀ (j : Nat) (z x : Value), zs[j]? = some z → ws[j]? = some x → ∃ t p k, DecV w A z t p ∧ x = .int (wth t p) k
theorem DecL.mono {w : World} {A B : Led} {ws zs : List Value} (h : DecL w A ws zs) (s : ∀ q ∈ A, q ∈ B) : DecL w B ws zs := fun j z x e1 e2 => by
  obtain ⟨t, p, k, d, e⟩ := h j z x e1 e2
  exact ⟨t, p, k, d.mono s, e⟩
theorem DecL.snoc {w : World} {A : Led} {ws zs : List Value} {z : Value} {t p : Int} {k : Tok} (h : DecL w A ws zs) (hx : ws[zs.length]? = some (.int (wth t p) k)) (hz : DecV w A z t p) : DecL w A ws (zs ++ [z]) := fun j y u e1 e2 => by
  by_cases hj : j < zs.length
  · rw [List.getElem?_append_left hj] at e1; exact h j y u e1 e2
  · rw [List.getElem?_append_right (by omega)] at e1
    have : j = zs.length := by
      cases q : j - zs.length with
      | zero => omega
      | succ k => rw [q] at e1; cases e1
    subst this
    rw [Nat.sub_self] at e1
    cases e1
    rw [hx] at e2; cases e2; exact ⟨t, p, k, hz, rfl⟩
theorem seen_num {w : World} {Z : Led} {ws ys : List Value} {i : Nat} {v : Value} (h : SeenL w Z ws ys) (hi : ∀ x ∈ ws, ∃ a t, x = .int a t) (hl : ys.length = ws.length) (hv : ys[i]? = some v) : ∃ t p k, NumV w Z v t p ∧ ws[i]? = some (.int (wth t p) k) := by
  have hlt : i < ws.length := hl ▸ (List.getElem?_eq_some_iff.mp hv).1
  have hw := List.getElem?_eq_getElem hlt
  obtain ⟨a, t, e⟩ := hi _ (List.getElem_mem hlt)
  rcases h i v _ hv hw with ⟨_, z⟩ | ⟨_, z⟩ | ⟨t', p, k, hn, z⟩
  · rw [e] at z; cases z
  · rw [e] at z; cases z
  · exact ⟨t', p, k, hn, by rw [hw, z]⟩
def DInv (w : World) (cs led Z : Led) (ws : List Value) (i : Nat) (zs : List Value) (news : Led) : Prop := ∃ X, news = cs ++ (X ++ Z) ∧ (∀ q ∈ X, ∀ x ∈ led, x.1 ≠ q.1) ∧ zs.length = i ∧ DecL w (X ++ Z) ws zs
theorem dinv_step {w : World} {h₀ h' : Heap} {L I Ca D : Addr} {m : Str → Option Value} {s₁ : Shared} {oI oC : Obj} {cs led Z X nw : Led} {ws zs : List Value} {i tk : Nat} {r : Value} {t p : Int} {k : Tok} {S : Led → Prop} (off0 : Off3 I Ca D (cs ++ (X ++ Z))) (hlen : zs.length = i) (hled : ∀ x ∈ led, x ∈ cs ++ Z) (hX : ∀ q ∈ X, ∀ x ∈ led, x.1 ≠ q.1) (hdec : DecL w (X ++ Z) ws zs) (F : Fr h₀ L h' m)
    (N : News h₀ L h' (nw ++ (I, oI) :: (Ca, oC) :: (D, lst zs) :: (cs ++ (X ++ Z)))) (hd : ∀ q ∈ nw, ∀ x ∈ (I, oI) :: (Ca, oC) :: (D, lst zs) :: (cs ++ (X ++ Z)), x.1 ≠ q.1) (hv : DecV w (nw ++ (X ++ Z)) r t p) (hx : ws[i]? = some (.int (wth t p) k)) (hS : S (cs ++ ((nw ++ X) ++ Z))) :
    CompEnd h₀ L m s₁ I oI Ca oC D (lst zs) S (fun y news' => DInv w cs led Z ws (i + 1) (zs ++ [y]) news') r { s₁ with heap := h', toks := tk } := by
  have hap : (nw ++ X) ++ Z = nw ++ (X ++ Z) := List.append_assoc ..
  refine CompEnd.intro F N (cs ++ ((nw ++ X) ++ Z)) (fun q hq => ?_) (Off3.of fun q hq => ?_) hS ⟨nw ++ X, rfl, fun q hq x hx => ?_, by rw [List.length_append, hlen]; rfl, by rw [hap]; exact (hdec.mono fun q hq => List.mem_append_right _ hq).snoc (by rw [hlen]; exact hx) hv⟩
  · rw [hap] at hq
    rcases List.mem_cons.mp hq with rfl | hq
    · exact List.mem_append_right _ (.head _)
    · rcases List.mem_cons.mp hq with rfl | hq
      · exact List.mem_append_right _ (.tail _ (.head _))
      · rcases List.mem_cons.mp hq with rfl | hq
        · exact List.mem_append_right _ (.tail _ (.tail _ (.head _)))
        · rcases List.mem_append.mp hq with hq | hq
          · exact List.mem_append_right _ (.tail _ (.tail _ (.tail _ (List.mem_append_left _ hq))))
          · rcases List.mem_append.mp hq with hq | hq
            · exact List.mem_append_left _ hq
            · exact List.mem_append_right _ (.tail _ (.tail _ (.tail _ (List.mem_append_right _ hq))))
  · rw [hap] at hq
    rcases List.mem_append.mp hq with hq | hq
    · exact off0.mem q (List.mem_append_left _ hq)
    · rcases List.mem_append.mp hq with hq | hq
      · exact ⟨Ne.symm (hd q hq _ (.head _)), Ne.symm (hd q hq _ (.tail _ (.head _))), Ne.symm (hd q hq _ (.tail _ (.tail _ (.head _))))⟩
      · exact off0.mem q (List.mem_append_right _ hq)
  · rcases List.mem_append.mp hq with hq | hq
    · refine hd q hq x (.tail _ (.tail _ (.tail _ ?_)))
      rcases List.mem_append.mp (hled x hx) with h | h
      · exact List.mem_append_left _ h
      · exact List.mem_append_right _ (List.mem_append_right _ h)
    · exact hX q hq x hx
theorem four_end {w : World} {base : Heap} {outer : List Env} {s : Shared} {g h' : Heap} {L S dS T T2 e : Addr} {m : Str → Option Value} {all X Z : Led} {tk n : Nat} {k3 k4 : Tok} {oT : Obj} {r0 r1 r2 r3 : Value} {t0 t1 t2 t3 p0 p1 p2 p3 q0 q1 q2 q3 : Int} {due : Option (Int × Int × Int × Int)}
    (G : Ground s ((S, instObj 405 dS) :: (dS, shD w k3 k4 T T2) :: (T, oT) :: Z) g) (hl : LedOk base outer s.heap ((S, instObj 405 dS) :: (dS, shD w k3 k4 T T2) :: (T, oT) :: Z)) (F : Fr g L h' m) (N : News g L h' all) (still : ∀ q ∈ ((S, instObj 405 dS) :: (dS, shD w k3 k4 T T2) :: (T, oT) :: Z : Led), q ∈ all) (sub : ∀ q ∈ X, q ∈ all)
    (hX : ∀ q ∈ X, ∀ x ∈ ((S, instObj 405 dS) :: (dS, shD w k3 k4 T T2) :: (T, oT) :: Z : Led), x.1 ≠ q.1) (me : (e, listOf #[r0, r1, r2, r3] n) ∈ all) (ne0 : S ≠ e) (ne1 : dS ≠ e) (ne2 : T ≠ e) (lt : AllLt e (X ++ Z))
    (v0 : DecV w (X ++ Z) r0 t0 p0) (v1 : DecV w (X ++ Z) r1 t1 p1) (v2 : DecV w (X ++ Z) r2 t2 p2) (v3 : DecV w (X ++ Z) r3 t3 p3) (hq : due = some (q0, q1, q2, q3)) (w0 : wth t0 p0 = q0) (w1 : wth t1 p1 = q1) (w2 : wth t2 p2 = q2) (w3 : wth t3 p3 = q3) :
    ∃ q, due = some q ∧ Ok s [] (FourPost w Z q) (.ref e) { s with heap := h', toks := tk } := by
  subst w0 w1 w2 w3
  have up : ∀ q ∈ X ++ Z, q ∈ ((e, listOf #[r0, r1, r2, r3] n) :: X) ++ Z := fun q hq => .tail _ hq
  refine ⟨_, hq, still_end (nw := (e, listOf #[r0, r1, r2, r3] n) :: X) G hl F N still (fun q hq => ?_) ⟨e, n, r0, r1, r2, r3, t0, t1, t2, t3, p0, p1, p2, p3, rfl, .head _, v0.mono up, v1.mono up, v2.mono up, v3.mono up, rfl⟩⟩
  rcases List.mem_cons.mp hq with rfl | hq
  · refine ⟨me, fun hm => ?_⟩
    obtain ⟨x, hx, hxe⟩ := List.mem_map.mp hm
    dsimp only at hxe
    rcases List.mem_cons.mp hx with rfl | hx
    · exact ne0 hxe
    · rcases List.mem_cons.mp hx with rfl | hx
      · exact ne1 hxe
      · rcases List.mem_cons.mp hx with rfl | hx
        · exact ne2 hxe
        · have := allLt_mem lt x (List.mem_append_right _ hx)
          rw [hxe] at this; exact absurd this (Nat.lt_irrefl _)
  · refine ⟨sub q hq, fun hm => ?_⟩
    obtain ⟨x, hx, hxe⟩ := List.mem_map.mp hm
    exact hX q hq x hx hxe
section
variable {w : World} {p : Program} {loose : List Str} {mean : ExcName → Option Value} {mg mb : Str → Option Value} {base : Heap} {outer : List Env} {s : Shared} {dp un : Nat} {gd : Option (List Code)}
theorem rg_Four187 : True := by
  (k_with "exec For Name Call cons nil" => ((k_here; (rename Fr _ _ _ _ => lF'); (with_unfolding_all refine' For_invVF lF' ?k1z1 ?k2z1 ?_; (case k1z1 => exact rfl); (case k2z1 => exact rfl); k_whole))))
  (k_with "exec For Name Subscript cons nil" => ((k_here; (rename Fr _ _ _ _ => lF'); (with_unfolding_all refine' For_invVF lF' ?k1z2 ?k2z2 ?_; (case k1z2 => exact rfl); (case k2z2 => exact rfl); k_whole))))
  (k_with "k_all" => (first | exact off_P (by assumption) | exact off_S (by assumption) | exact off_dS (by assumption) | exact off_T (by assumption)))
  (k_with "eval ListComp" => ((k_here; k_dflt (refine PyProof.Rows.LCg.ListComp_U (F₀ := by k_asm) (by with_unfolding_all rfl) (by decide) (by rfl) (by decide) (by rfl) ?_))))
  (k_with "exec Assign cons ListComp" => ((k_here; k_dflt (refine PyProof.Rows.LCg.Assign_ListComp_U (F₀ := by k_asm) (by rfl) (by with_unfolding_all rfl) (by with_unfolding_all rfl) (by decide) (by rfl) (by decide) (by rfl) (by rfl) (by rfl) ?_))))
  (k_with "k_mem" => (((repeat (first | exact List.mem_cons_self | refine List.mem_cons_of_mem _ ?_)); (try (with_reducible_and_instances assumption)); done)))
  (k_with "k_ne" => (((try dsimp only); first | with_reducible assumption | with_reducible exact Ne.symm (by with_reducible assumption) | (refine neN ?_; omega))))
  (k_with "subscriptTail" => ((k_here; (with_reducible show wpAny _ _ (subscriptTail _ _ (Value.ref _) (Value.int _ _)) _ _ _); k_dflt ((with_unfolding_all refine' item_litK ?k1z8 ?k2z8 ?k3z8 ?k4z8 ?_ ?k6z8); (case k1z8 => exact News.isList (by k_asm) (by k_mem)); (case k2z8 => decide); (case k3z8 => decide); (case k4z8 => rfl); (case k6z8 => with_unfolding_all rfl)); k_whole)))
  (k_with "subscriptTail Name Constant ref int" => ((k_here; (with_reducible show wpAny _ _ (subscriptTail _ _ (Value.ref _) (Value.int _ _)) _ _ _); k_dflt ((with_unfolding_all refine' item_litK ?k1z9 ?k2z9 ?k3z9 ?k4z9 ?_ ?k6z9); (case k1z9 => exact News.isList (by k_asm) (by k_mem)); (case k2z9 => decide); (case k3z9 => decide); (case k4z9 => rfl); (case k6z9 => with_unfolding_all rfl)); k_whole)))
  (k_with "call ref" => ((k_here; (with_reducible show wpAny _ _ (call (Value.ref 194) _) _ _ _); k_dflt (refine' use_least ?Wz10 ?Bz10 ?Fz10 ?Nz10 ?hkz10 ?a1z10 ?mlz10 ?d1z10 ?d2z10 ?subz10 ?_; (case Fz10 => k_asm); (case Nz10 => k_asm); (case Wz10 => assumption); (case Bz10 => assumption); (case a1z10 => exact ⟨rfl, le_of_ble rfl, rfl, le_of_ble rfl⟩); (case hkz10 => exact ⟨rfl, rfl⟩); (case mlz10 => k_mem); (case d1z10 => assumption); (case d2z10 => assumption); (case subz10 => exact (fun q hq => by repeat (first | exact hq | refine List.Mem.tail _ ?_)))); intro _ _ _ _ _ _ _ _ _; (try k_sweep))))
  (k_with "call ref" => ((k_here; (with_reducible show wpAny _ _ (call (Value.ref 201) _) _ _ _); k_dflt (refine' use_greatest ?Wz11 ?Bz11 ?Fz11 ?Nz11 ?hkz11 ?a1z11 ?mlz11 ?d1z11 ?d2z11 ?subz11 ?_; (case Fz11 => k_asm); (case Nz11 => k_asm); (case Wz11 => assumption); (case Bz11 => assumption); (case a1z11 => exact ⟨rfl, le_of_ble rfl, rfl, le_of_ble rfl⟩); (case hkz11 => exact ⟨rfl, rfl⟩); (case mlz11 => k_mem); (case d1z11 => assumption); (case d2z11 => assumption); (case subz11 => exact (fun q hq => by repeat (first | exact hq | refine List.Mem.tail _ ?_)))); intro _ _ _ _ _ _ _ _ _; (try k_sweep))))
  (k_with "call ref" => ((k_here; (with_reducible show wpAny _ _ (call (Value.ref 341) _) _ _ _); k_dflt (refine' use_box ?Wz12 ?Bz12 ?Fz12 ?Nz12 ?hkz12 ?a1z12 ?mSz12 ?mdSz12 ?mTz12 ?hdz12 ?loz12 ?hcz12 ?subz12 ?_; (case Fz12 => k_asm); (case Nz12 => k_asm); (case Wz12 => assumption); (case Bz12 => assumption); (case a1z12 => exact ⟨rfl, le_of_ble rfl, rfl, le_of_ble rfl⟩); (case hkz12 => exact ⟨rfl, rfl⟩); (case mSz12 => k_mem); (case mdSz12 => k_mem); (case mTz12 => k_mem); (case hdz12 => assumption); (case loz12 => assumption); (case hcz12 => assumption); (case subz12 => exact (fun q hq => by repeat (first | exact hq | refine List.Mem.tail _ ?_)))); intro _ _ _ _ _ _; (try k_sweep))))
  (k_with "call ref" => ((k_here; (with_reducible show wpAny _ _ (call (Value.ref 341) _) _ _ _); k_dflt (refine' use_cell ?Wz13 ?Bz13 ?Fz13 ?Nz13 ?hkz13 ?a1z13 ?mSz13 ?mdSz13 ?mTz13 ?hdz13 ?loz13 ?hTbz13 ?hnz13 ?hcz13 ?subz13 ?_; (case Fz13 => k_asm); (case Nz13 => k_asm); (case Wz13 => assumption); (case Bz13 => assumption); (case a1z13 => exact ⟨rfl, le_of_ble rfl, rfl, le_of_ble rfl⟩); (case hkz13 => exact ⟨rfl, rfl⟩); (case mSz13 => k_mem); (case mdSz13 => k_mem); (case mTz13 => k_mem); (case hdz13 => assumption); (case loz13 => assumption); (case hTbz13 => assumption); (case hnz13 => assumption); (case hcz13 => assumption); (case subz13 => exact (fun q hq => by repeat (first | exact hq | refine List.Mem.tail _ ?_)))); intro _ _ _ _ _ _; (try k_sweep))))
  (k_with "call ref" => ((k_here; (with_reducible show wpAny _ _ (call (Value.ref 307) _) _ _ _); k_dflt (refine' use_isnum ?Wz14 ?Bz14 ?Fz14 ?Nz14 ?hkz14 ?a1z14 ?hcz14 ?subz14 ?_; (case Fz14 => k_asm); (case Nz14 => k_asm); (case Wz14 => assumption); (case Bz14 => assumption); (case a1z14 => exact ⟨rfl, le_of_ble rfl, rfl, le_of_ble rfl⟩); (case hkz14 => exact ⟨rfl, rfl⟩); (case hcz14 => assumption); (case subz14 => exact (fun q hq => by repeat (first | exact hq | refine List.Mem.tail _ ?_)))); intro _ _ _ _; (try k_sweep))))
  (k_with "call builtin:all" => ((k_here; k_dflt (refine' all_isN ?Fz15 ?Nz15 ?hhz15 ?hmz15 ?hbz15 ?_; (case Fz15 => k_asm); (case Nz15 => k_asm); (case hhz15 => exact rfl); (case hmz15 => k_mem); (case hbz15 => assumption)); intro _ _ _ _; (try k_sweep))))
  (k_with "call ref" => ((k_here; (with_reducible show wpAny _ _ (call (Value.ref 180) _) _ _ _); k_dflt (refine' use_dofn ?Wz16 ?Bz16 ?Fz16 ?Nz16 ?hkz16 ?a1z16 ?hcz16 ?subz16 ?_; (case Fz16 => k_asm); (case Nz16 => k_asm); (case Wz16 => assumption); (case Bz16 => assumption); (case a1z16 => exact ⟨rfl, le_of_ble rfl, rfl, le_of_ble rfl⟩); (case hkz16 => exact ⟨rfl, rfl⟩); (case hcz16 => assumption); (case subz16 => exact (fun q hq => by repeat (first | exact hq | refine List.Mem.tail _ ?_)))); intro _ _ _ _ _ _ _ _; (try k_sweep))))
  (k_with "call builtin:isinstance" => ((k_here; (with_reducible show wpAny _ _ (call _ [Value.ref _, Value.type _]) _ _ _); k_dflt (refine' isi_list_dict ?Xz17 ?Nz17 ?mz17 ?ez17 ?_; (case Xz17 => k_in); (case Nz17 => k_asm); (case ez17 => assumption); (case mz17 => k_mem); k_whole; intro _))))
  (k_with "call builtin:len" => ((k_here; (with_reducible show wpAny _ _ (call (Value.builtin "len") [Value.ref _]) _ _ _); k_dflt (refine' KM.len_K ?Nz18 ?mz18 ?hsz18 ?hfz18 ?_; (case Nz18 => k_asm); (case mz18 => k_mem); (case hsz18 => first | exact List.size_toArray.trans (by assumption) | exact List.size_toArray); (case hfz18 => omega)))))
  (k_with "exec Raise some none" => ((k_here; k_dflt (refine Raise_fault rfl ?_))))
  (k_with "call ref" => ((k_here; (with_reducible show wpAny _ _ (call (Value.ref 59) _) _ _ _); k_dflt (refine' use_fault ?Xz20 ?a1z20 ?_; (case Xz20 => k_in); (case a1z20 => exact ⟨rfl, le_of_ble rfl, rfl, le_of_ble rfl⟩)); intro _ _ _ _)))
  trivial
set_option maxRecDepth 100000
set_option maxHeartbeats 8000000
theorem four_ok {S dS T T2 : Addr} {n : Int} {k3 k4 : Tok} {oT : Obj} {kvs : List (Int × Value)} {Z : Led} {v : Value} {due : Option (Int × Int × Int × Int)} (Cc : Cx w p loose mean mg mb base outer s.heap)
    (hl : LedOk base outer s.heap ((S, instObj 405 dS) :: (dS, shD w k3 k4 T T2) :: (T, oT) :: Z)) (hd : oT.IsDictOf (intKind PW w) kvs) (lo : (T == sysModules) = false) (hTb : Tb kvs n) (hn : n ≤ 899) (hb : BoxV w Z kvs v due) :
    wpAny (model PW w) (kA 550 4750 gd outer) (call (.ref 433) [.ref S, v]) (fun r s' => ∃ q, due = some q ∧ Ok s [] (FourPost w Z q) r s') (fun e s' => due = none ∧ Fail base outer s e s') s := by
  refine wpAny_call ?_
  have W' := Cc.W
  k_dflt (refine' enterC (binds := [(("shelf" : Str), .ref S), (("value" : Str), v)]) (led := (S, instObj 405 dS) :: (dS, shD w k3 k4 T T2) :: (T, oT) :: Z) Cc hl ?k6 ?k7 ?k8 ?k9 ?kB ?kD ?_ ?c2 ?c3 ?c4; (case k6 => k_is); (case k7 => k_is); (case k8 => decide); (case k9 => exact BindsTo.of_eq rfl); (case kB => exact rfl); (case kD => decide +kernel); (case c2 => exact rfl); (case c3 => exact rfl); (case c4 => exact rfl))
  intro g L' h' tk' cells' G F' N' Y' l1 B' X' T'
  obtain ⟨oc1, hE', dc1⟩ := CellsAre.one Y'; subst hE'; clear Y'
  simp only [List.cons_append, List.nil_append] at N'
  (try dsimp only); (try k_fold)
  repeat' ((fail_if_success (with_reducible show wpAny _ _ (execs (Stmt.If _ _ _ _ :: _) _) _ _ _)); first | (k_unfold; (try dsimp only)) | walk1 | (dsimp only; walk1) | fail "no step")
  rename BoxL _ _ _ _ _ => hbl
  clear hb
  have hl' := hl
  rcases boxL_list hbl with ⟨a, o, rfl, m, e, rfl⟩ | ⟨a, n, vs, ws, rfl, m, hcs, h5, hdue⟩
  · repeat' (first | (k_end; (with_reducible show ∃ _ _ _, _ = Value.ref _ ∧ _); exact raise_end W' G hl (by assumption) (by assumption) (by assumption) (fun q hq => by repeat (first | exact hq | refine List.Mem.tail _ ?_)) ⟨rfl, rfl⟩ (by assumption) (by assumption) rfl) | (k_unfold; (try dsimp only)) | walk1 | (dsimp only; walk1) | fail "no step")
    all_goals w_report
  · clear hbl
    by_cases h4 : vs.length = 4
    · repeat' ((fail_if_success (with_reducible show CompSrc _ _ _ _ _ _ _ _ _ _ _ _ _ _)); first | (k_unfold; (try dsimp only)) | walk1 | (dsimp only; walk1) | fail "no step")
      refine CompSrc.ledger (its := vs.toArray) (k := n) (by rfl) (by assumption) (by assumption) (by k_mem) (by rw [List.size_toArray, sizeLine_eq]; omega) fun g3 => ?_
      refine comp_still (SeenL w Z ws) ?st1 (fun j y x e => nomatch e) ?fi1
      case st1 =>
        intro i ys v I oI C oC D m₂ h tk E' hi hlen hInv hP hns hx F' N' off0 ne3
        obtain ⟨wv, hw, hcv⟩ := hcs.at (i := i) (v := v) (by simpa using hP)
        have hw' : ws[ys.length]? = some wv := by rw [hlen]; exact hw
        (try simp only [List.cons_append, List.nil_append] at N')
        repeat' (first | (k_end; exact still_end2 (by assumption) (by assumption) off0 (src_led2 (by k_mem)) (SeenL.snoc hInv hw' (by assumption))) | (k_unfold; (try dsimp only)) | walk1 | (dsimp only; walk1) | fail "no step")
        all_goals w_report
      case fi1 =>
        intro ys hlen hInv D h2 tk2 F' N' offD
        (try dsimp only); (try k_fold)
        repeat' ((fail_if_success (with_reducible show CompSrc _ _ _ _ _ _ _ _ _ _ _ _ _ _)); first | (k_unfold; (try dsimp only)) | walk1 | (dsimp only; walk1) | fail "no step")
        have hlw : ys.length = ws.length := hlen.trans ((List.size_toArray).trans hcs.len.symm)
        have hlv : vs.length = ys.length := (hlen.trans List.size_toArray).symm
        refine CompSrc.ledger (its := ys.toArray) (k := ys.length) (by rfl) (by assumption) (by assumption) (by k_mem) (by rw [List.size_toArray, sizeLine_eq]; omega) fun g3 => ?_
        refine comp_map (ws.map fun x => .bool (isN x)) (by rw [List.size_toArray, List.length_map, hlw]) ?st2 ?fi2
        case st2 =>
          intro i zs v y I oI C oC D2 m₂ h tk E' hP hy hns hx F' N' off0 ne3
          have hv : ys[i]? = some v := by simpa using hP
          obtain ⟨x, hx2, rfl⟩ : ∃ x, ws[i]? = some x ∧ y = .bool (isN x) := by
            rw [List.getElem?_map] at hy
            cases q : ws[i]? with
            | none => rw [q] at hy; cases hy
            | some x => rw [q] at hy; exact ⟨x, rfl, (Option.some.inj hy).symm⟩
          have hsv := hInv i v x hv hx2
          repeat' (first | (k_end; exact cmap_end (by assumption) (by assumption) off0 (src_led (by k_mem))) | (k_unfold; (try dsimp only)) | walk1 | (dsimp only; walk1) | fail "no step")
          all_goals w_report
        case fi2 =>
          intro D2 h3 tk3 F' N' offD2
          (try dsimp only); (try k_fold)
          rcases hdue with ⟨hD, hbad⟩ | ⟨a0, a1, a2, a3, t0, t1, t2, t3, rfl, hD⟩
          · have hall := all_bad (hbad.resolve_left fun z => z h4)
            repeat' (first | (k_end; (with_reducible show ∃ _ _ _, _ = Value.ref _ ∧ _); exact raise_end W' G hl (by assumption) (by assumption) (by assumption) (fun q hq => by repeat (first | exact hq | refine List.Mem.tail _ ?_)) ⟨rfl, rfl⟩ (by assumption) (by assumption) hD) | (k_unfold; (try dsimp only)) | walk1 | (dsimp only; walk1) | fail "no step")
            all_goals w_report
          · have hall : ([.int a0 t0, .int a1 t1, .int a2 t2, .int a3 t3] : List Value).all isN = true := rfl
            repeat' ((fail_if_success (with_reducible show CompSrc _ _ _ _ _ _ _ _ _ _ _ _ _ _)); first | (k_unfold; (try dsimp only)) | walk1 | (dsimp only; walk1) | fail "no step")
            refine CompSrc.ledger (its := ys.toArray) (k := ys.length) (by rfl) (by assumption) (by assumption) (by k_mem) (by rw [List.size_toArray, sizeLine_eq]; omega) fun g3 => ?_
            refine comp_inv (DInv w [(D2, lst (([.int a0 t0, .int a1 t1, .int a2 t2, .int a3 t3] : List Value).map fun x => .bool (isN x))), (D, lst ys), (L' + 1, oc1), (S, instObj 405 dS), (dS, shD w k3 k4 T T2), (T, oT)] ((S, instObj 405 dS) :: (dS, shD w k3 k4 T T2) :: (T, oT) :: Z) Z [.int a0 t0, .int a1 t1, .int a2 t2, .int a3 t3]) ?st3 ?fi3 _ 0 [] _ (Nat.add_zero _) ⟨[], rfl, (fun _ h => nomatch h), rfl, fun j y x e => nomatch e⟩
            case st3 =>
              intro i zs news v I oI C oC D3 m₂ h tk E' hi hinv hP hns hx F' N' off0 ne3
              obtain ⟨X, rfl, hX, hlz, hdec⟩ := hinv
              obtain ⟨t, p', k, hnum, hwx⟩ := seen_num (i := i) (v := v) hInv (fun x hx => by simp only [List.mem_cons, List.not_mem_nil, or_false] at hx; rcases hx with rfl | rfl | rfl | rfl <;> exact ⟨_, _, rfl⟩) hlw (by simpa using hP)
              replace hnum := hnum.mono fun q hq => List.mem_append_right X hq
              (try simp only [List.cons_append, List.nil_append] at N')
              repeat' (first | (k_end; exact dinv_step off0 hlz (fun x hx => by rcases hx with _ | ⟨_, hx⟩; exact .tail _ (.tail _ (.tail _ (.head _))); rcases hx with _ | ⟨_, hx⟩; exact .tail _ (.tail _ (.tail _ (.tail _ (.head _)))); rcases hx with _ | ⟨_, hx⟩; exact .tail _ (.tail _ (.tail _ (.tail _ (.tail _ (.head _))))); exact .tail _ (.tail _ (.tail _ (.tail _ (.tail _ (.tail _ hx)))))) hX hdec (by assumption) (by assumption) (by assumption) (by assumption) hwx (src_led (.tail _ (.head _)))) | (k_unfold; (try dsimp only)) | walk1 | (dsimp only; walk1) | fail "no step")
              all_goals w_report
            case fi3 =>
              intro zs news hinv D3 h4 tk4 F' N' offD3
              obtain ⟨X, rfl, hX, hlz, hdec⟩ := hinv
              (try simp only [List.cons_append, List.nil_append] at N')
              obtain ⟨z0, z1, z2, z3, rfl⟩ := four (hlz.trans (List.size_toArray.trans hlw))
              obtain ⟨x0, p0, _, dv0, g0⟩ := hdec 0 _ _ rfl rfl
              obtain ⟨x1, p1, _, dv1, g1⟩ := hdec 1 _ _ rfl rfl
              obtain ⟨x2, p2, _, dv2, g2⟩ := hdec 2 _ _ rfl rfl
              obtain ⟨x3, p3, _, dv3, g3⟩ := hdec 3 _ _ rfl rfl
              cases g0; cases g1; cases g2; cases g3
              repeat' (first | (k_end; exact four_end (X := X) (Z := Z) G hl (by assumption) (by assumption) (by simp only [List.forall_mem_cons]; exact ⟨by k_mem, by k_mem, by k_mem, fun q hq => by repeat (first | with_reducible exact List.mem_append_right _ hq | refine List.mem_cons_of_mem _ ?_)⟩) (fun q hq => by repeat (first | with_reducible exact List.mem_append_left _ hq | refine List.mem_cons_of_mem _ ?_)) hX (by k_mem) (by k_ne) (by k_ne) (by k_ne) (by (rename _ ∧ _ => hl9); (repeat (first | exact hl9 | (replace hl9 := hl9.2)))) (by assumption) (by assumption) (by assumption) (by assumption) hD (by assumption) (by assumption) (by assumption) (by assumption)) | (k_unfold; (try dsimp only)) | walk1 | (dsimp only; walk1) | fail "no step")
              all_goals w_report
    · have hD : due = none := by
        rcases hdue with ⟨hD, _⟩ | ⟨a0, a1, a2, a3, t0, t1, t2, t3, e, _⟩
        · exact hD
        · have := hcs.len; rw [e] at this; exact absurd this.symm h4
      repeat' (first | (k_end; (with_reducible show ∃ _ _ _, _ = Value.ref _ ∧ _); exact raise_end W' G hl (by assumption) (by assumption) (by assumption) (fun q hq => by repeat (first | exact hq | refine List.Mem.tail _ ?_)) ⟨rfl, rfl⟩ (by assumption) (by assumption) hD) | (k_unfold; (try dsimp only)) | walk1 | (dsimp only; walk1) | fail "no step")
      all_goals w_report
end
end
section
theorem rg_CompTup : True := by
  k_with_none
  (k_with "omA" => (first | (with_reducible (first | exact And.left ‹_› | exact And.left (And.right ‹_›) | exact And.left (And.right (And.right ‹_›)) | exact And.left (And.right (And.right (And.right ‹_›))) | exact And.left (And.right (And.right (And.right (And.right ‹_›)))) | exact And.left (And.right (And.right (And.right (And.right (And.right ‹_›))))) | exact And.left (And.right (And.right (And.right (And.right (And.right (And.right ‹_›)))))) | exact And.left (And.right (And.right (And.right (And.right (And.right (And.right (And.right ‹_›))))))) | exact And.left (And.right (And.right (And.right (And.right (And.right (And.right (And.right (And.right ‹_›)))))))) | exact And.left (And.right (And.right (And.right (And.right (And.right (And.right (And.right (And.right (And.right ‹_›))))))))) | exact And.left (And.right (And.right (And.right (And.right (And.right (And.right (And.right (And.right (And.right (And.right ‹_›)))))))))) | exact And.left (And.right (And.right (And.right (And.right (And.right (And.right (And.right (And.right (And.right (And.right (And.right ‹_›))))))))))) | exact And.left (And.right (And.right (And.right (And.right (And.right (And.right (And.right (And.right (And.right (And.right (And.right (And.right ‹_›)))))))))))) | exact And.left (And.right (And.right (And.right (And.right (And.right (And.right (And.right (And.right (And.right (And.right (And.right (And.right (And.right ‹_›))))))))))))) | exact And.left (And.right (And.right (And.right (And.right (And.right (And.right (And.right (And.right (And.right (And.right (And.right (And.right (And.right (And.right ‹_›)))))))))))))) | exact And.left (And.right (And.right (And.right (And.right (And.right (And.right (And.right (And.right (And.right (And.right (And.right (And.right (And.right (And.right (And.right ‹_›))))))))))))))) | exact And.left (And.right (And.right (And.right (And.right (And.right (And.right (And.right (And.right (And.right (And.right (And.right (And.right (And.right (And.right (And.right (And.right ‹_›)))))))))))))))) | exact And.right ‹_› | exact And.right (And.right ‹_›) | exact And.right (And.right (And.right ‹_›)) | exact And.right (And.right (And.right (And.right ‹_›))) | exact And.right (And.right (And.right (And.right (And.right ‹_›)))))) | fail))
  (k_with "omC" => (first | decide | fail))
  (k_with "omU" => (first | (k_extra "omC") | (with_reducible (first | exact o_le ‹_› (by decide) | exact o_lel ‹_› (by decide) | exact o_mul ‹_› (by decide) (by decide) | exact o_mull ‹_› (by decide) (by decide))) | ((with_reducible refine o_chl ‹_› ?_); k_extra "omU") | ((with_reducible refine o_addc ?_); k_extra "omU") | ((with_reducible refine o_subc ?_); k_extra "omU") | ((with_reducible refine o_subv ‹_› ?_); k_extra "omU") | ((with_reducible refine o_add2 ‹_› ?_); k_extra "omU") | ((with_reducible refine o_add2l ‹_› ?_); k_extra "omU") | ((with_reducible refine o_addl ?_); k_extra "omU") | ((with_reducible refine o_addm ‹_› (by decide) ?_); k_extra "omU") | fail))
  (k_with "omL" => (first | (k_extra "omC") | (with_reducible (first | exact o_ge ‹_› (by decide) | exact o_gel ‹_› (by decide) | exact o_gmul ‹_› (by decide) (by decide))) | ((with_reducible refine o_gaddc ?_); k_extra "omL") | ((with_reducible refine o_gsubc ?_); k_extra "omL") | ((with_reducible refine o_gsubv ‹_› ?_); k_extra "omL") | ((with_reducible refine o_gsubvl ‹_› ?_); k_extra "omL") | ((with_reducible refine o_gadd2 ‹_› ?_); k_extra "omL") | ((with_reducible refine o_gaddl ?_); k_extra "omL") | ((with_reducible refine o_gaddm ‹_› (by decide) ?_); k_extra "omL") | fail))
  (k_with "omR" => (first | (with_reducible (first | exact o_self (by decide))) | ((with_reducible refine o_ch ‹_› ?_); k_extra "omR") | ((with_reducible refine o_addch ?_); k_extra "omR") | fail))
  (k_with "omZ" => (first | (k_extra "omR") | (k_extra "omU") | (k_extra "omL") | fail))
  (k_with "omX" => (first | decide | (k_extra "omZ") | (with_reducible (first | exact Int.le_refl _ | exact Nat.le_refl _ | exact o_nle ‹_› (by decide) | exact o_nlt ‹_› (by decide) | exact o_nlel ‹_› (by decide))) | ((with_reducible refine o_ltc ?_); k_extra "omZ") | ((with_reducible refine o_gtc ?_); k_extra "omZ") | (with_reducible (first | exact o_iffn ‹_› ‹_› | exact o_neql ‹_› (by decide) | exact o_neqi ‹_› (by decide))) | ((with_reducible show _ < _); (first | (with_reducible exact Iff.mp ‹_› ‹_›) | k_extra "omA")) | ((repeat (rename _ ≠ _ => hz; clear hz)); (repeat (rename _ ≠ _ ∧ _ => hz; clear hz)); omega +splitDisjunctions) | fail))
  (k_with "omN" => (first | (with_reducible (first | exact o_n1 | exact o_n1' | exact o_ne ‹_› | exact o_ne' ‹_› | exact o_lt ‹_› | exact o_gt ‹_› | exact o_ne (by k_extra "omA") | exact o_ne' (by k_extra "omA") | exact o_lt (by k_extra "omA") | exact o_gt (by k_extra "omA") | exact o_lts1 (by k_extra "omA") | exact o_lts1' (by k_extra "omA") | exact o_lts2 (by k_extra "omA") | exact o_lts2' (by k_extra "omA") | exact o_gt2 ‹_› (by k_extra "omA") | exact o_lt2 ‹_› (by k_extra "omA"))) | fail))
  (k_with "om" => (first | with_reducible assumption | ((first | (with_reducible show _ ≤ _) | (with_reducible show _ < _)); k_extra "omX") | ((with_reducible show _ = _ → False); k_extra "omN") | fail))
  trivial
open PySem PySem.W PyProof.Rows PySem.Calls PyProof.Rows.LCg
def TupSrc (prog : Program) (w : World) (A : Around) (h₀ : Heap) (L : Addr) (m : Str → Option Value) (env : Env) (elt : PySem.Expr) (x : Str) (scope : Scope) (cl : List (Str × Addr)) (Fin : Shared → List Value → Led → Prop) (xv : Value) (s₁ : Shared) : Prop :=
  ∃ ax its k news, xv = .ref ax ∧ A.handled = none ∧ Fr h₀ L s₁.heap m ∧ News h₀ L s₁.heap news ∧ (ax, ({ cls := .type "tuple", data := .seq its k } : Obj)) ∈ news ∧ its.size ≤ sizeLine ∧
    ∀ g, CompRest prog w A h₀ L m env elt x scope cl { s₁ with heap := g } (fun nw => (ax, ({ cls := .type "tuple", data := .seq its k } : Obj)) ∈ nw) (fun i v => its[i]? = some v) (Fin { s₁ with heap := g }) its.size 0 [] news
section
variable {prog : Program} {w : World} {A : Around} {E : Value → Shared → Prop} {s : Shared} {h₀ : Heap} {L : Addr} {m : Str → Option Value} {env : Env}
theorem tup_st {ax I : Addr} {its : Array Value} {k : Nat} : ∀ i (h h' : Heap) (o : Obj) (nw : Led), (h.IsTupleIter I ax i ∧ h.IsTuple ax its) → h.get? I = some o → h'.get? I = some o → (∀ b o, h₀.get? b = some o → h'.get? b = some o) → News h₀ L h' nw → (ax, ({ cls := .type "tuple", data := .seq its k } : Obj)) ∈ nw → (h'.IsTupleIter I ax i ∧ h'.IsTuple ax its) :=
  fun i h h' o nw st e e' k N S => ⟨by obtain ⟨o', q, r⟩ := st.1; rw [e] at q; cases q; exact ⟨o, e', r⟩, ⟨_, (N _ S).1, rfl, _, rfl⟩⟩
theorem Assign_comp_tup {elt iter : PySem.Expr} {x y : Str} {px py : Pos} {scope : Scope} {cl : List (Str × Addr)} {pos spos : Pos} {Q : Flow → Shared → Prop} (F₀ : Fr h₀ L s.heap m) (hLe : env.locals = L)
    (hsw : swapsWith (.ListComp elt [⟨.Name x px, iter, [], 0⟩] scope pos) (some (.Name y py)) spos.line env = pure true)
    (hclos : closureFor scope env = pure cl) (hcell : ∀ z ∈ scope.names, z.2 ≠ .cell) (hkind : scope.kind = .function)
    (hnames : ∀ z ∈ scope.names, z.2 = .local → scope.names.lookup z.1 = some .local) (hx : scope.names.lookup x = some .local)
    (hy : env.kindOf y = some .local) (hp : (env.scope.kind == .class || (env.scope.kind == .module && env.locals != env.globals)) = false)
    (h : wpAny (model prog w) A (eval iter env) (TupSrc prog w A h₀ L m env elt x scope cl (fun s₂ => FinA h₀ L m s₂ y Q)) E s)
    (hs : ∀ x, foldedSetIterable iter env x = pure x := by intro _; rfl) :
    wpAny (model prog w) A (exec (.Assign [.Name y py] (.ListComp elt [⟨.Name x px, iter, [], 0⟩] scope pos) spos) env) Q E s := by
  subst hLe
  rw [exec_Assign_Name_used _ _ _ _ hsw]
  refine wpAny_bind (wpAny_standAt (wpAny_bind ?_))
  show wpAny _ A (do let _ ← comprehension (.ListComp elt [⟨.Name x px, iter, [], 0⟩] scope pos) scope env _ (newList []) false (eval iter env) (some (assign (.Name y py) env))) _ _ s
  refine wpAny_bind (wpAny_mono (wpAny_comprehension_free (use := some (assign (.Name y py) env)) (Q := fun _ s' => Q .next s') rfl hs hclos hkind hnames
    (wpAny_mono h (fun xv s₁ h₁ => ?_) fun _ _ e => e)) (fun _ s' hq => wpAny_pure (wpAny_pure hq)) fun _ _ e => e)
  obtain ⟨ax, its, k, news, rfl, hh, F, N, S, hsz, R⟩ := h₁
  have ht : s₁.heap.IsTuple ax its := ⟨_, (N _ S).1, rfl, _, rfl⟩
  have hlt : ax < s₁.heap.objs.size := Heap.lt_size (N _ S).1
  refine wpAny_pyIter_tuple ht ?_
  have up : ∀ b o, s₁.heap.get? b = some o → (s₁.heap.push { cls := .type "tuple_iterator", data := .fields #[.ref ax, .int 0 0] }).get? b = some o := fun b o e => Heap.get?_push_of_some _ e
  refine block_U (Walks.tuple hh s₁.heap.objs.size ax (Nat.ne_of_lt hlt) its) hsz (fun i h st => by obtain ⟨o, e, _⟩ := st.1; exact ⟨o, e⟩) tup_st hcell hkind hx ⟨⟨_, Heap.get?_push_size _ rfl, rfl, rfl⟩, ⟨_, up _ _ (N _ S).1, rfl, _, rfl⟩⟩ (fun b hb => ?_)
    (F.keeps up) (N.grown up) (Nat.ne_of_lt F.ns.lt) (next_is_new F) (fun p hp => Nat.ne_of_lt (Heap.lt_size (N p hp).1)) S (R _) ?_
  · rw [Heap.size_push]
    rcases List.mem_cons.mp hb with rfl | hb
    · exact Nat.lt_succ_self _
    · rw [List.mem_singleton.mp hb]; exact Nat.lt_succ_of_lt hlt
  · intro D C h' tk m' ys news' F' N' o1 hn hC₀ hD₀ hCL hDL hCD offC fin
    show wpAny _ A (assign (.Name y py) env (.ref D)) _ _ _
    refine wpAny_assign_Name (wpAny_storeName_local hy F'.ns (fun h₂ hn₂ hs₂ => ?_) hp)
    have hL₀ : h₀.get? env.locals = none := Heap.get?_none_of_le F'.above
    have F₂ : Fr h₀ env.locals h₂ (fun z => if z = y then some (.ref D) else m z) := ⟨hn₂, fun b o e => hs₂.extBut b o (fun q => by rw [q, hL₀] at e; cases e) (F'.keep b o e), F'.above⟩
    refine ⟨m', hn.sameBut hs₂ hCL, fun h'' hs'' => fin D h'' _ (F₂.change hs'' hCL hC₀) (fun p hp => ?_) o1⟩
    have z : h₂.get? p.1 = some p.2 := hs₂.extBut _ _ (N' p hp).2.1 (N' p hp).1
    refine ⟨hs''.extBut _ _ ?_ z, (N' p hp).2⟩
    rcases List.mem_cons.mp hp with rfl | hp
    · exact Ne.symm hCD
    · exact offC p hp
theorem TupSrc.intro {elt : PySem.Expr} {x : Str} {scope : Scope} {cl : List (Str × Addr)} {Fin : Shared → List Value → Led → Prop} {ax : Addr} {its : Array Value} {k : Nat} {news : Led} {s₁ : Shared} (hh : A.handled = none) (F : Fr h₀ L s₁.heap m) (N : News h₀ L s₁.heap news) (hm : (ax, ({ cls := .type "tuple", data := .seq its k } : Obj)) ∈ news) (hsz : its.size ≤ sizeLine)
    (h : ∀ g, CompRest prog w A h₀ L m env elt x scope cl { s₁ with heap := g } (fun nw => (ax, ({ cls := .type "tuple", data := .seq its k } : Obj)) ∈ nw) (fun i v => its[i]? = some v) (Fin { s₁ with heap := g }) its.size 0 [] news) : TupSrc prog w A h₀ L m env elt x scope cl Fin (.ref ax) s₁ :=
  ⟨ax, its, k, news, rfl, hh, F, N, hm, hsz, h⟩
theorem tup_end {h' : Heap} {I Ca D l : Addr} {s₁ : Shared} {oI oC oD ol : Obj} {S : Led → Prop} {rest : Value → Led → Prop} {y : Value} {tk : Nat} {news : Led} (F : Fr h₀ L h' m) (N : News h₀ L h' ((l, ol) :: (I, oI) :: (Ca, oC) :: (D, oD) :: news)) (off : Off3 I Ca D news) (l1 : @LT.lt Nat _ I l) (l2 : @LT.lt Nat _ Ca l) (l3 : @LT.lt Nat _ D l) (hS : S ((l, ol) :: news)) (r : rest y ((l, ol) :: news)) :
    CompEnd h₀ L m s₁ I oI Ca oC D oD S rest y { s₁ with heap := h', toks := tk } := by
  refine CompEnd.intro F N ((l, ol) :: news) (fun q hq => ?_) ⟨⟨Nat.ne_of_gt l1, Nat.ne_of_gt l2, Nat.ne_of_gt l3⟩, off⟩ hS r
  rcases List.mem_cons.mp hq with rfl | hq
  · exact .tail _ (.head _)
  · rcases List.mem_cons.mp hq with rfl | hq
    · exact .tail _ (.tail _ (.head _))
    · rcases List.mem_cons.mp hq with rfl | hq
      · exact .tail _ (.tail _ (.tail _ (.head _)))
      · rcases List.mem_cons.mp hq with rfl | hq
        · exact .head _
        · exact .tail _ (.tail _ (.tail _ (.tail _ hq)))
end
end
section
theorem rg_Box : True := by
  k_with_none
  (k_with "omA" => (first | (with_reducible (first | exact And.left ‹_› | exact And.left (And.right ‹_›) | exact And.left (And.right (And.right ‹_›)) | exact And.left (And.right (And.right (And.right ‹_›))) | exact And.left (And.right (And.right (And.right (And.right ‹_›)))) | exact And.left (And.right (And.right (And.right (And.right (And.right ‹_›))))) | exact And.left (And.right (And.right (And.right (And.right (And.right (And.right ‹_›)))))) | exact And.left (And.right (And.right (And.right (And.right (And.right (And.right (And.right ‹_›))))))) | exact And.left (And.right (And.right (And.right (And.right (And.right (And.right (And.right (And.right ‹_›)))))))) | exact And.left (And.right (And.right (And.right (And.right (And.right (And.right (And.right (And.right (And.right ‹_›))))))))) | exact And.left (And.right (And.right (And.right (And.right (And.right (And.right (And.right (And.right (And.right (And.right ‹_›)))))))))) | exact And.left (And.right (And.right (And.right (And.right (And.right (And.right (And.right (And.right (And.right (And.right (And.right ‹_›))))))))))) | exact And.left (And.right (And.right (And.right (And.right (And.right (And.right (And.right (And.right (And.right (And.right (And.right (And.right ‹_›)))))))))))) | exact And.left (And.right (And.right (And.right (And.right (And.right (And.right (And.right (And.right (And.right (And.right (And.right (And.right (And.right ‹_›))))))))))))) | exact And.left (And.right (And.right (And.right (And.right (And.right (And.right (And.right (And.right (And.right (And.right (And.right (And.right (And.right (And.right ‹_›)))))))))))))) | exact And.left (And.right (And.right (And.right (And.right (And.right (And.right (And.right (And.right (And.right (And.right (And.right (And.right (And.right (And.right (And.right ‹_›))))))))))))))) | exact And.left (And.right (And.right (And.right (And.right (And.right (And.right (And.right (And.right (And.right (And.right (And.right (And.right (And.right (And.right (And.right (And.right ‹_›)))))))))))))))) | exact And.right ‹_› | exact And.right (And.right ‹_›) | exact And.right (And.right (And.right ‹_›)) | exact And.right (And.right (And.right (And.right ‹_›))) | exact And.right (And.right (And.right (And.right (And.right ‹_›)))))) | fail))
  (k_with "omC" => (first | decide | fail))
  (k_with "omU" => (first | (k_extra "omC") | (with_reducible (first | exact o_le ‹_› (by decide) | exact o_lel ‹_› (by decide) | exact o_mul ‹_› (by decide) (by decide) | exact o_mull ‹_› (by decide) (by decide))) | ((with_reducible refine o_chl ‹_› ?_); k_extra "omU") | ((with_reducible refine o_addc ?_); k_extra "omU") | ((with_reducible refine o_subc ?_); k_extra "omU") | ((with_reducible refine o_subv ‹_› ?_); k_extra "omU") | ((with_reducible refine o_add2 ‹_› ?_); k_extra "omU") | ((with_reducible refine o_add2l ‹_› ?_); k_extra "omU") | ((with_reducible refine o_addl ?_); k_extra "omU") | ((with_reducible refine o_addm ‹_› (by decide) ?_); k_extra "omU") | fail))
  (k_with "omL" => (first | (k_extra "omC") | (with_reducible (first | exact o_ge ‹_› (by decide) | exact o_gel ‹_› (by decide) | exact o_gmul ‹_› (by decide) (by decide))) | ((with_reducible refine o_gaddc ?_); k_extra "omL") | ((with_reducible refine o_gsubc ?_); k_extra "omL") | ((with_reducible refine o_gsubv ‹_› ?_); k_extra "omL") | ((with_reducible refine o_gsubvl ‹_› ?_); k_extra "omL") | ((with_reducible refine o_gadd2 ‹_› ?_); k_extra "omL") | ((with_reducible refine o_gaddl ?_); k_extra "omL") | ((with_reducible refine o_gaddm ‹_› (by decide) ?_); k_extra "omL") | fail))
  (k_with "omR" => (first | (with_reducible (first | exact o_self (by decide))) | ((with_reducible refine o_ch ‹_› ?_); k_extra "omR") | ((with_reducible refine o_addch ?_); k_extra "omR") | fail))
  (k_with "omZ" => (first | (k_extra "omR") | (k_extra "omU") | (k_extra "omL") | fail))
  (k_with "omX" => (first | decide | (k_extra "omZ") | (with_reducible (first | exact Int.le_refl _ | exact Nat.le_refl _ | exact o_nle ‹_› (by decide) | exact o_nlt ‹_› (by decide) | exact o_nlel ‹_› (by decide))) | ((with_reducible refine o_ltc ?_); k_extra "omZ") | ((with_reducible refine o_gtc ?_); k_extra "omZ") | (with_reducible (first | exact o_iffn ‹_› ‹_› | exact o_neql ‹_› (by decide) | exact o_neqi ‹_› (by decide))) | ((with_reducible show _ < _); (first | (with_reducible exact Iff.mp ‹_› ‹_›) | k_extra "omA")) | ((repeat (rename _ ≠ _ => hz; clear hz)); (repeat (rename _ ≠ _ ∧ _ => hz; clear hz)); omega +splitDisjunctions) | fail))
  (k_with "omN" => (first | (with_reducible (first | exact o_n1 | exact o_n1' | exact o_ne ‹_› | exact o_ne' ‹_› | exact o_lt ‹_› | exact o_gt ‹_› | exact o_ne (by k_extra "omA") | exact o_ne' (by k_extra "omA") | exact o_lt (by k_extra "omA") | exact o_gt (by k_extra "omA") | exact o_lts1 (by k_extra "omA") | exact o_lts1' (by k_extra "omA") | exact o_lts2 (by k_extra "omA") | exact o_lts2' (by k_extra "omA") | exact o_gt2 ‹_› (by k_extra "omA") | exact o_lt2 ‹_› (by k_extra "omA"))) | fail))
  (k_with "om" => (first | with_reducible assumption | ((first | (with_reducible show _ ≤ _) | (with_reducible show _ < _)); k_extra "omX") | ((with_reducible show _ = _ → False); k_extra "omN") | fail))
  trivial
open PySem PySem.W PyProof.Rows PySem.Calls PyProof.Rows.LCg
theorem reg_box : PySem.Challenge.rw_nn0125_01 = PySem.Challenge.rw_nn0125_01 ∧ KX = KX := by k_fill; exact ⟨rfl, rfl⟩
abbrev Q4 := Int × Int × Int × Int
def cutQ (m d : Q4) : Option Q4 :=
  if max m.1 d.1 ≤ min m.2.2.1 d.2.2.1 ∧ max m.2.1 d.2.1 ≤ min m.2.2.2 d.2.2.2 then some (max m.1 d.1, max m.2.1 d.2.1, min m.2.2.1 d.2.2.1, min m.2.2.2 d.2.2.2) else none
def boxed (md : Option Q4) (c : Option (Option Q4)) : Option Q4 := match md, c with
  | none, _ => none
  | some m, none => some m
  | some _, some none => none
  | some m, some (some d) => cutQ m d
def CropV (w : World) (A : Led) (kvs : List (Int × Value)) (cv : Option Value) (c : Option (Option Q4)) : Prop :=
  (cv = none ∧ c = none) ∨ (∃ v, cv = some v ∧ RefV w A v 900 ∧ c = none) ∨ ∃ v cd, cv = some v ∧ BoxV w A kvs v cd ∧ c = some cd
section
variable {w : World} {A : Around} {E : Value → Shared → Prop} {s : Shared} {h₀ : Heap} {L : Addr} {m : Str → Option Value} {news : Led}
section
variable {fd : Addr} {ofd : Obj} {kvs : List (Str × Value)} {x : Str} {tk : Tok} (N : News h₀ L s.heap news) (hm : (fd, ofd) ∈ news) (hd : ofd.IsDictOf (strKind PW w) kvs)
include N hm hd
theorem led_dict : s.heap.DictOf (strKind PW w) fd kvs := Heap.dictOf_iff.mpr ⟨ofd, N.get hm, hd⟩
theorem led_method {pl : Sem Bool} {Q : Value × List Value → Shared → Prop} (h : Q (.builtin "dict.get", [.ref fd]) s) : wpAny (model PW w) A (getMethod (.ref fd) "get" pl) Q E s :=
  have hD := led_dict N hm hd
  getMethod_builtin hD.typeIs PySem.F.plainAttrs_dict PySem.F.slot_dict_get PySem.F.type_dict_get hD.mapOf.noDict h
theorem led_get (lo : (fd == sysModules) = false) {o : Option Value} {Q : Value → Shared → Prop} (hl : valueAt kvs x = o) (h : Q (o.getD .none) { s with toks := s.toks + 1 }) :
    wpAny (model PW w) A (call (.builtin "dict.get") [.ref fd, .str x tk]) Q E s :=
  have hD := led_dict N hm hd
  call_meetsIn PySem.F.slot_dict_get hD.typeIs PySem.F.entry_dict_get (PySem.F.args_dict_get_2 _ _) (meets_dict_get (strKind PW w) fd (strKind_is _ _ _ _) lo) ⟨_, hD.mapOf, by rw [hl]; exact h⟩
end
end
theorem use_ok_post {s s' : Shared} {r : Value} {Post : Led → Value → Prop} {h₀ : Heap} {L : Addr} {m : Str → Option Value} {news : Led} {Q : Value → Shared → Prop} (hok : Ok s [] Post r s') (F : Fr h₀ L s.heap m) (N : News h₀ L s.heap news)
    (k : ∀ h' tk nw, Fr h₀ L h' m → News h₀ L h' (nw ++ news) → (∀ q ∈ nw, ∀ x ∈ news, x.1 ≠ q.1) → Post nw r → Q r { s with heap := h', toks := tk }) : Q r s' := by
  obtain ⟨h', tk', nw, rfl, hk, hn, hp⟩ := hok
  have kp : ∀ b o, s.heap.get? b = some o → h'.get? b = some o := fun b o e => hk b o e (fun z => nomatch z)
  have nn : ∀ q ∈ nw, h'.get? q.1 = some q.2 ∧ s.heap.get? q.1 = none := fun q hq => ⟨(hn q hq).1, (hn q hq).2.resolve_right (fun z => nomatch z)⟩
  obtain ⟨oL, es, ep, hL, hLd⟩ := F.ns
  refine k h' tk' nw ⟨⟨oL, es, ep, kp _ _ hL, hLd⟩, fun b o e => kp b o (F.keep b o e), F.above⟩ (fun q hq => ?_) (fun q hq x hx e => ?_) hp
  · rcases List.mem_append.mp hq with hq | hq
    · obtain ⟨a1, a2⟩ := nn q hq
      refine ⟨a1, fun e => ?_, ?_⟩
      · rw [e, hL] at a2; cases a2
      · cases e : h₀.get? q.1 with
        | none => rfl
        | some o => rw [F.keep _ _ e] at a2; cases a2
    · obtain ⟨c1, c2, c3⟩ := N q hq
      exact ⟨kp _ _ c1, c2, c3⟩
  · have := (nn q hq).2
    rw [← e, (N x hx).1] at this; cases this
section
variable {w : World} {p : Program} {loose : List Str} {mean : ExcName → Option Value} {mg mb : Str → Option Value} {base : Heap} {outer : List Env} {s : Shared} {A A₀ : Around} {h₀ : Heap} {L : Addr} {m : Str → Option Value} {env : Env} {Q : Value → Shared → Prop} {E : Value → Shared → Prop} {news pre Z : Led}
theorem use_four {S dS T T2 : Addr} {n : Int} {k3 k4 : Tok} {oT : Obj} {kvs : List (Int × Value)} {v : Value} {due : Option Q4} (W : Wd w p loose mean mg mb base) (B : Below A₀ base outer h₀) (F : Fr h₀ L s.heap m) (N : News h₀ L s.heap (pre ++ Z)) (hk : EnvAt env L) (a1 : At A (env :: outer) 550 4750)
    (mS : (S, instObj 405 dS) ∈ pre) (mdS : (dS, shD w k3 k4 T T2) ∈ pre) (mT : (T, oT) ∈ pre) (hd : oT.IsDictOf (intKind PW w) kvs) (lo : (T == sysModules) = false) (hTb : Tb kvs n) (hn : n ≤ 899) (hb : BoxV w Z kvs v due)
    (kQ : ∀ e nn r0 r1 r2 r3 t0 t1 t2 t3 p0 p1 p2 p3 Z' h' tk, due = some (wth t0 p0, wth t1 p1, wth t2 p2, wth t3 p3) → Fr h₀ L h' m → News h₀ L h' (pre ++ Z') → (∀ q ∈ Z, q ∈ Z') → (∀ q ∈ Z', q ∈ Z ∨ ∀ x ∈ pre ++ Z, x.1 ≠ q.1) → (∀ x ∈ pre ++ Z, x.1 ≠ e) → (e, listOf #[r0, r1, r2, r3] nn) ∈ Z' →
      DecV w Z' r0 t0 p0 → DecV w Z' r1 t1 p1 → DecV w Z' r2 t2 p2 → DecV w Z' r3 t3 p3 → Q (.ref e) { s with heap := h', toks := tk })
    (kE : ∀ e s', due = none → Fail base (env :: outer) s e s' → E e s') : wpAny (model PW w) A (call (.ref 433) [.ref S, v]) Q E s := by
  have c := call_le (four_ok (gd := A.guards) (cx_of W B F hk) (led_of (led := (S, instObj 405 dS) :: (dS, shD w k3 k4 T T2) :: (T, oT) :: Z) hk B F N (by
    simp only [List.forall_mem_cons]
    exact ⟨List.mem_append_left _ mS, List.mem_append_left _ mdS, List.mem_append_left _ mT, fun q hq => List.mem_append_right _ hq⟩)) hd lo hTb hn hb) a1.h a1.d a1.f a1.u
  refine wpAny_mono c (fun r s' hok => ?_) fun e s' hf => kE e s' hf.1 hf.2
  obtain ⟨q, hq, hok⟩ := hok
  refine use_ok_post hok F N (fun h' tk nw F' N' hd' hp => ?_)
  obtain ⟨e, nn, r0, r1, r2, r3, t0, t1, t2, t3, p0, p1, p2, p3, rfl, me, v0, v1, v2, v3, rfl⟩ := hp
  refine kQ e nn r0 r1 r2 r3 t0 t1 t2 t3 p0 p1 p2 p3 (nw ++ Z) h' tk hq F' (fun q hq => N' q ?_) (fun q hq => List.mem_append_right _ hq) (fun q hq => ?_) (fun x hx => hd' _ me x hx) (List.mem_append_left _ me) v0 v1 v2 v3
  · rcases List.mem_append.mp hq with hq | hq
    · exact List.mem_append_right _ (List.mem_append_left _ hq)
    · rcases List.mem_append.mp hq with hq | hq
      · exact List.mem_append_left _ hq
      · exact List.mem_append_right _ (List.mem_append_right _ hq)
  · rcases List.mem_append.mp hq with hq | hq
    · exact .inr fun x hx => hd' q hq x hx
    · exact .inl hq
end
theorem BoxL.mono {w : World} {A B : Led} {kvs : List (Int × Value)} {v : Value} {due : Option Q4} (h : BoxL w A kvs v due) (s : ∀ q ∈ A, q ∈ B) : BoxL w B kvs v due := by
  rcases h with ⟨a, o, e, m, c, d⟩ | ⟨a, n, vs, ws, e, m, c, b, h5, d⟩ | ⟨a, n, v0, v1, v2, v3, a0, a1, a2, a3, t0, t1, t2, t3, e, m, c, d⟩
  · exact .inl ⟨a, o, e, s _ m, c, d⟩
  · exact .inr (.inl ⟨a, n, vs, ws, e, s _ m, c.mono s ext_refl, b, h5, d⟩)
  · exact .inr (.inr ⟨a, n, v0, v1, v2, v3, a0, a1, a2, a3, t0, t1, t2, t3, e, s _ m, c.mono s ext_refl, d⟩)
theorem BoxL.ref {w : World} {A : Led} {kvs : List (Int × Value)} {v : Value} {due : Option Q4} (h : BoxL w A kvs v due) : ∃ a, v = .ref a := by
  rcases h with ⟨a, o, e, _⟩ | ⟨a, n, vs, ws, e, _⟩ | ⟨a, n, v0, v1, v2, v3, a0, a1, a2, a3, t0, t1, t2, t3, e, _⟩ <;> exact ⟨a, e⟩
theorem cut_some {m d : Q4} {x0 x1 x2 x3 : Int} (e0 : x0 = max m.1 d.1) (e1 : x1 = max m.2.1 d.2.1) (e2 : x2 = min m.2.2.1 d.2.2.1) (e3 : x3 = min m.2.2.2 d.2.2.2) (h1 : x0 ≤ x2) (h2 : x1 ≤ x3) : cutQ m d = some (x0, x1, x2, x3) := by
  subst e0 e1 e2 e3
  unfold cutQ
  rw [if_pos ⟨h1, h2⟩]
theorem cut_none {m d : Q4} {x0 x1 x2 x3 : Int} (e0 : x0 = max m.1 d.1) (e1 : x1 = max m.2.1 d.2.1) (e2 : x2 = min m.2.2.1 d.2.2.1) (e3 : x3 = min m.2.2.2 d.2.2.2) (h : x2 < x0 ∨ x3 < x1) : cutQ m d = none := by
  subst e0 e1 e2 e3
  unfold cutQ
  rw [if_neg fun z => h.elim (fun y => absurd z.1 (Int.not_le.mpr y)) fun y => absurd z.2 (Int.not_le.mpr y)]
theorem sg_le {c W1 W2 : Int} (h : 0 < c ↔ W2 < W1) (n : ¬0 < c) : W1 ≤ W2 := Int.not_lt.mp fun z => n (h.mpr z)
theorem six_sub {a b c d e f g h : Addr × Obj} {Z Z1 : Led} (s : ∀ q ∈ Z, q ∈ Z1) : ∀ q ∈ (c :: d :: e :: f :: g :: h :: Z : Led), q ∈ [a, b, c, d, e, f, g, h] ++ Z1 := by
  simp only [List.forall_mem_cons]
  refine ⟨by simp, by simp, by simp, by simp, by simp, by simp, fun q hq => List.mem_append_right _ (s q hq)⟩
theorem BoxV.mono {w : World} {A B : Led} {kvs : List (Int × Value)} {v : Value} {due : Option Q4} (h : BoxV w A kvs v due) (s : ∀ q ∈ A, q ∈ B) : BoxV w B kvs v due := by
  rcases h with h | ⟨i, t, v', k0, nn, h1, h2, h3, h4⟩
  · exact .inl (h.mono s)
  · exact .inr ⟨i, t, v', k0, nn, h1.mono s, h2, s _ h3, h4.mono s⟩
section
variable {w : World} {p : Program} {loose : List Str} {mean : ExcName → Option Value} {mg mb : Str → Option Value} {base : Heap} {outer : List Env} {s : Shared} {g h' : Heap} {L : Addr} {m : Str → Option Value} {led all Z Zt : Led}
theorem boxr_end {e : Addr} {n tk : Nat} {r0 r1 r2 r3 : Value} {t0 t1 t2 t3 p0 p1 p2 p3 : Int} {due : Option Q4} (G : Ground s led g) (hl : LedOk base outer s.heap led) (F : Fr g L h' m) (N : News g L h' all) (still : ∀ q ∈ led, q ∈ all) (hZ : ∀ q ∈ Zt, q ∈ all) (split : ∀ q ∈ Zt, q ∈ Z ∨ ∀ x ∈ led, x.1 ≠ q.1)
    (me : (e, listOf #[r0, r1, r2, r3] n) ∈ all) (ne : ∀ x ∈ led, x.1 ≠ e) (v0 : DecV w Zt r0 t0 p0) (v1 : DecV w Zt r1 t1 p1) (v2 : DecV w Zt r2 t2 p2) (v3 : DecV w Zt r3 t3 p3) (hq : due = some (wth t0 p0, wth t1 p1, wth t2 p2, wth t3 p3)) :
    ∃ q, due = some q ∧ Ok s [] (FourPost w Z q) (.ref e) { s with heap := h', toks := tk } := by
  have up : ∀ q ∈ Zt, q ∈ ((e, listOf #[r0, r1, r2, r3] n) :: Zt.filter fun q => decide (q.1 ∉ led.map (·.1))) ++ Z := fun q hq => by
    rcases split q hq with h | h
    · exact List.mem_append_right _ h
    · refine List.mem_append_left _ (.tail _ (List.mem_filter.mpr ⟨hq, decide_eq_true fun hm => ?_⟩))
      obtain ⟨x, hx, e⟩ := List.mem_map.mp hm
      exact h x hx e
  refine ⟨_, hq, still_end (nw := (e, listOf #[r0, r1, r2, r3] n) :: Zt.filter fun q => decide (q.1 ∉ led.map (·.1))) G hl F N still (fun q hq => ?_) ⟨e, n, r0, r1, r2, r3, t0, t1, t2, t3, p0, p1, p2, p3, rfl, .head _, v0.mono up, v1.mono up, v2.mono up, v3.mono up, rfl⟩⟩
  rcases List.mem_cons.mp hq with rfl | hq
  · refine ⟨me, fun hm => ?_⟩
    obtain ⟨x, hx, hxe⟩ := List.mem_map.mp hm
    exact ne x hx hxe
  · obtain ⟨h1, h2⟩ := List.mem_filter.mp hq
    exact ⟨hZ q h1, of_decide_eq_true h2⟩
theorem on_end {M : Model} {A : Around} {D : Prop} {E' : Value → Shared → Prop} {v : Value} {s' : Shared} {env : Env} {tk : Nat} (G : Ground s led g) (hl : LedOk base outer s.heap led) (B : Below A base outer g) (F : Fr g L h' m) (N : News g L h' all) (hk : ∀ q ∈ led, q ∈ all) (he : EnvAt env L)
    (f : Fail base (env :: outer) { s with heap := h', toks := tk } v s') (hD : D) : wpAny M (A.deeper env) (leaving env v) (fun _ s'' => D ∧ Fail base outer s v s'') E' s' :=
  wpAny_mono (fail_on G hl B F N hk he f) (fun _ _ z => ⟨hD, z⟩) fun _ _ z => z
end
section
variable {w : World} {p : Program} {loose : List Str} {mean : ExcName → Option Value} {mg mb : Str → Option Value} {base : Heap} {outer : List Env} {s : Shared} {A A₀ : Around} {h₀ : Heap} {L : Addr} {m : Str → Option Value} {env : Env} {Q : Value → Shared → Prop} {E : Value → Shared → Prop} {news Z : Led}
theorem use_gone {S dS T T2 : Addr} {i : Int} {k3 k4 : Tok} {oT : Obj} {kvs : List (Int × Value)} {v : Value} (W : Wd w p loose mean mg mb base) (B : Below A₀ base outer h₀) (F : Fr h₀ L s.heap m) (N : News h₀ L s.heap news) (hk : EnvAt env L) (a1 : At A (env :: outer) 600 5000)
    (mS : (S, instObj 405 dS) ∈ news) (mdS : (dS, shD w k3 k4 T T2) ∈ news) (mT : (T, oT) ∈ news) (hd : oT.IsDictOf (intKind PW w) kvs) (lo : (T == sysModules) = false) (hr : RefV w Z v i) (sub : ∀ q ∈ Z, q ∈ news) (hv : valueAt kvs i = none)
    (k : ∀ h' tk, Fr h₀ L h' m → News h₀ L h' news → Q .none { s with heap := h', toks := tk }) : wpAny (model PW w) A (call (.ref 341) [.ref S, v]) Q E s := by
  obtain ⟨a, da, k1, k2, k5, k6, rfl, m1, m2⟩ := hr
  exact use_same (call_le (fetch_none (gd := A.guards) (Nat.le_refl _) (Nat.le_refl _) (cx_of W B F hk) (N _ mS).1 (N _ mdS).1 (N _ mT).1 (N _ (sub _ m1)).1 (N _ (sub _ m2)).1 hd lo hv) a1.h a1.d a1.f a1.u) F N k
theorem DecV.parts {v : Value} {t p' : Int} (h : DecV w Z v t p') : ∃ a da k1 k2 k3 k4, v = .ref a ∧ (a, instObj 155 da) ∈ Z ∧ (da, decD w k1 k2 k3 k4 t p') ∈ Z ∧ 0 ≤ p' ∧ p' ≤ 3 ∧ -1000000 ≤ t ∧ t ≤ 1000000 := by
  obtain ⟨h1, h2, h3, h4, a, da, k1, k2, k3, k4, e, m1, m2⟩ := h
  exact ⟨a, da, k1, k2, k3, k4, e, m1, m2, h1, h2, h3, h4⟩
end
section
variable {w : World} {p : Program} {loose : List Str} {mean : ExcName → Option Value} {mg mb : Str → Option Value} {base : Heap} {outer : List Env} {s : Shared} {dp un : Nat} {gd : Option (List Code)}
theorem rg_Box128 : True := by
  (k_with "exec For Name Call cons nil" => ((k_here; (rename Fr _ _ _ _ => lF'); (with_unfolding_all refine' For_invVF lF' ?k1z1 ?k2z1 ?_; (case k1z1 => exact rfl); (case k2z1 => exact rfl); k_whole))))
  (k_with "exec For Name Subscript cons nil" => ((k_here; (rename Fr _ _ _ _ => lF'); (with_unfolding_all refine' For_invVF lF' ?k1z2 ?k2z2 ?_; (case k1z2 => exact rfl); (case k2z2 => exact rfl); k_whole))))
  (k_with "subscriptTail" => ((k_here; (with_reducible show wpAny _ _ (subscriptTail _ _ (Value.ref _) (Value.int _ _)) _ _ _); k_dflt ((with_unfolding_all refine' item_litK ?k1z3 ?k2z3 ?k3z3 ?k4z3 ?_ ?k6z3); (case k1z3 => exact News.isList (by k_asm) (by k_mem)); (case k2z3 => decide); (case k3z3 => decide); (case k4z3 => rfl); (case k6z3 => with_unfolding_all rfl)); k_whole)))
  (k_with "subscriptTail Name Constant ref int" => ((k_here; (with_reducible show wpAny _ _ (subscriptTail _ _ (Value.ref _) (Value.int _ _)) _ _ _); k_dflt ((with_unfolding_all refine' item_litK ?k1z4 ?k2z4 ?k3z4 ?k4z4 ?_ ?k6z4); (case k1z4 => exact News.isList (by k_asm) (by k_mem)); (case k2z4 => decide); (case k3z4 => decide); (case k4z4 => rfl); (case k6z4 => with_unfolding_all rfl)); k_whole)))
  (k_with "call ref" => ((k_here; (with_reducible show wpAny _ _ (call (Value.ref 110) _) _ _ _); k_dflt (refine' use0 (cmp_ok ?hdpz5 ?hunz5 (cx_of (by assumption) (by assumption) ?Fz5 ?hkz5) (led_of ?hk2z5 (by assumption) ?F2z5 ?N2z5 ?hmz5) ?b1z5 ?b2z5 ?b3z5 ?b4z5 ?b5z5 ?b6z5 ?b7z5 ?b8z5) ?F3z5 ?N3z5 ?_; (case F3z5 => k_asm); (case N3z5 => k_asm); (case Fz5 => k_asm); (case F2z5 => k_asm); (case hk2z5 => exact ⟨rfl, rfl⟩); (case N2z5 => k_asm); (case hkz5 => exact ⟨rfl, rfl⟩); (case hdpz5 => exact le_of_ble rfl); (case hunz5 => exact le_of_ble rfl); (case hmz5 => (simp only [List.forall_mem_cons]; exact ⟨by k_mem, by k_mem, by k_mem, by k_mem, fun _ hq => nomatch hq⟩)); (case b1z5 => omega); (case b2z5 => omega); (case b3z5 => omega); (case b4z5 => omega); (case b5z5 => omega); (case b6z5 => omega); (case b7z5 => omega); (case b8z5 => omega)); intro _ _ _ _ hp' _ N' hd'; obtain ⟨e1', c', k', e2', q1', q2'⟩ := hp'; subst e1'; subst e2'; clear hd'; (try simp only [List.nil_append] at N'); (try k_sweep))))
  (k_with "k_ne" => (((try dsimp only); first | with_reducible assumption | with_reducible exact Ne.symm (by with_reducible assumption) | (refine neN ?_; omega))))
  (k_with "k_all" => (with_reducible assumption))
  (k_with "k_mem" => (((repeat (first | exact List.mem_cons_self | refine List.mem_cons_of_mem _ ?_)); (try (with_reducible_and_instances assumption)); done)))
  (k_with "call ref" => ((k_here; (with_reducible show wpAny _ _ (call (Value.ref 201) _) _ _ _); k_dflt (refine' use_greatest ?Wz9 ?Bz9 ?Fz9 ?Nz9 ?hkz9 ?a1z9 ?mlz9 ?d1z9 ?d2z9 ?subz9 ?_; (case Fz9 => k_asm); (case Nz9 => k_asm); (case Wz9 => assumption); (case Bz9 => assumption); (case a1z9 => exact ⟨rfl, le_of_ble rfl, rfl, le_of_ble rfl⟩); (case hkz9 => exact ⟨rfl, rfl⟩); (case mlz9 => k_mem); (case d1z9 => assumption); (case d2z9 => assumption); (case subz9 => exact (fun q hq => by repeat (first | exact hq | refine List.mem_cons_of_mem _ ?_)))); intro _ _ _ _ _ _ _ dv' _; (obtain ⟨a', da', k1', k2', k3', k4', e', m1', m2', b1', b2', b3', b4'⟩ := dv'.parts); subst e'; (try k_sweep))))
  (k_with "call ref" => ((k_here; (with_reducible show wpAny _ _ (call (Value.ref 194) _) _ _ _); k_dflt (refine' use_least ?Wz10 ?Bz10 ?Fz10 ?Nz10 ?hkz10 ?a1z10 ?mlz10 ?d1z10 ?d2z10 ?subz10 ?_; (case Fz10 => k_asm); (case Nz10 => k_asm); (case Wz10 => assumption); (case Bz10 => assumption); (case a1z10 => exact ⟨rfl, le_of_ble rfl, rfl, le_of_ble rfl⟩); (case hkz10 => exact ⟨rfl, rfl⟩); (case mlz10 => k_mem); (case d1z10 => assumption); (case d2z10 => assumption); (case subz10 => exact (fun q hq => by repeat (first | exact hq | refine List.mem_cons_of_mem _ ?_)))); intro _ _ _ _ _ _ _ dv' _; (obtain ⟨a', da', k1', k2', k3', k4', e', m1', m2', b1', b2', b3', b4'⟩ := dv'.parts); subst e'; (try k_sweep))))
  (k_with "call ref" => ((k_here; (with_reducible show wpAny _ _ (call (Value.ref 341) _) _ _ _); k_dflt (refine' use_box (Z := _) ?Wz11 ?Bz11 ?Fz11 ?Nz11 ?hkz11 ?a1z11 ?mSz11 ?mdSz11 ?mTz11 ?hdz11 ?loz11 ?hcz11 ?subz11 ?_; (case Fz11 => k_asm); (case Nz11 => k_asm); (case Wz11 => assumption); (case Bz11 => assumption); (case a1z11 => exact ⟨rfl, le_of_ble rfl, rfl, le_of_ble rfl⟩); (case hkz11 => exact ⟨rfl, rfl⟩); (case mSz11 => k_mem); (case mdSz11 => k_mem); (case mTz11 => k_mem); (case hdz11 => assumption); (case loz11 => assumption); (case hcz11 => assumption); (case subz11 => exact (fun q hq => by repeat (first | exact hq | refine List.mem_cons_of_mem _ ?_)))); intro _ _ _ _ _ hb'; (obtain ⟨a', ea'⟩ := BoxL.ref hb'); subst ea'; (try k_sweep))))
  (k_with "call ref" => ((k_here; (with_reducible show wpAny _ _ (call (Value.ref 341) [_, Value.none]) _ _ _); k_dflt (refine' use_same (call_le (fetch_val ?hdpz12 ?hunz12 (cx_of ?Wz12 ?Bz12 ?F1z12 ?hkz12) isino_none) ?q1z12 ?q2z12 ?q3z12 ?q4z12) ?Fz12 ?Nz12 ?_; (case F1z12 => k_asm); (case Fz12 => k_asm); (case Nz12 => k_asm); (case Wz12 => assumption); (case Bz12 => assumption); (case q3z12 => exact rfl); (case hkz12 => exact ⟨rfl, rfl⟩); (case hdpz12 => exact Nat.le_refl _); (case hunz12 => exact Nat.le_refl _); (case q1z12 => exact rfl); (case q2z12 => exact le_of_ble rfl); (case q4z12 => exact le_of_ble rfl)); intro _ _ _ _; (try k_sweep))))
  (k_with "call ref" => ((k_here; (with_reducible show wpAny _ _ (call (Value.ref 341) _) _ _ _); k_dflt (refine' use_gone ?Wz13 ?Bz13 ?Fz13 ?Nz13 ?hkz13 ?a1z13 ?mSz13 ?mdSz13 ?mTz13 ?hdz13 ?loz13 ?hrz13 ?subz13 ?hvz13 ?_; (case Fz13 => k_asm); (case Nz13 => k_asm); (case Wz13 => assumption); (case Bz13 => assumption); (case a1z13 => exact ⟨rfl, le_of_ble rfl, rfl, le_of_ble rfl⟩); (case hkz13 => exact ⟨rfl, rfl⟩); (case mSz13 => k_mem); (case mdSz13 => k_mem); (case mTz13 => k_mem); (case hdz13 => assumption); (case loz13 => assumption); (case hrz13 => assumption); (case hvz13 => assumption); (case subz13 => exact (fun q hq => by repeat (first | exact hq | refine List.mem_cons_of_mem _ ?_)))); intro _ _ _ _; (try k_sweep))))
  (k_with "getMethod ref" => ((k_here; (with_reducible show wpAny _ _ (getMethod (Value.ref _) (PySem.Str.ofString "get") _) _ _ _); k_dflt (refine' led_method ?Nz14 ?mz14 ?dz14 ?_; (case Nz14 => k_asm); (case mz14 => k_mem); (case dz14 => assumption)))))
  (k_with "call builtin:dict.get" => ((k_here; k_dflt (refine' led_get ?Nz15 ?mz15 ?dz15 ?loz15 ?lz15 ?_; (case Nz15 => k_asm); (case mz15 => k_mem); (case dz15 => assumption); (case loz15 => assumption); (case lz15 => assumption)); (try dsimp only [Option.getD_none, Option.getD_some]))))
  (k_with "exec Assign cons ListComp" => ((k_here; k_dflt (refine Assign_comp_tup (F₀ := by k_asm) (by rfl) (by with_unfolding_all rfl) (by with_unfolding_all rfl) (by decide) (by rfl) (by decide) (by rfl) (by rfl) (by rfl) ?_))))
  (k_with "CompRest" => ((with_unfolding_all first | (refine CompRest.succ ?_; intro _ _ _ _ _ _ _ _ _ _ hv' _ _ _ _ _ _; lcg_open hv') | refine CompRest.zero ?_)))
  (k_with "CompEnd" => ((refine tup_end (by assumption) (by assumption) (by assumption) (by omega) (by omega) (by omega) (by k_mem) ?_)))
  (k_with "exec Raise some none" => ((k_here; k_dflt (refine Raise_fault rfl ?_))))
  (k_with "call ref" => ((k_here; (with_reducible show wpAny _ _ (call (Value.ref 59) _) _ _ _); k_dflt (refine' use_fault ?Xz20 ?a1z20 ?_; (case Xz20 => k_in); (case a1z20 => exact ⟨rfl, le_of_ble rfl, rfl, le_of_ble rfl⟩)); intro _ _ _ _)))
  trivial
set_option maxRecDepth 100000
set_option maxHeartbeats 8000000
theorem box_ok {S dS T T2 pg dpg fd R : Addr} {n : Int} {k3 k4 k5 k6 : Tok} {oT ofd : Obj} {kvs : List (Int × Value)} {fkvs : List (Str × Value)} {Z : Led} {mv : Value} {cv : Option Value} {md : Option Q4} {c : Option (Option Q4)} (Cc : Cx w p loose mean mg mb base outer s.heap)
    (hl : LedOk base outer s.heap ((S, instObj 405 dS) :: (dS, shD w k3 k4 T T2) :: (T, oT) :: (pg, instObj 424 dpg) :: (dpg, d2 w "reference" "fields" k5 k6 (.ref R) (.ref fd)) :: (fd, ofd) :: Z)) (hd : oT.IsDictOf (intKind PW w) kvs) (lo : (T == sysModules) = false) (hTb : Tb kvs n) (hn : n ≤ 899)
    (hfd : ofd.IsDictOf (strKind PW w) fkvs) (lo2 : (fd == sysModules) = false) (hmv : valueAt fkvs ("MediaBox" : Str) = some mv) (hcv : valueAt fkvs ("CropBox" : Str) = cv) (hb : BoxV w Z kvs mv md) (hc : CropV w Z kvs cv c) :
    wpAny (model PW w) (kA 540 4700 gd outer) (call (.ref 438) [.ref S, .ref pg]) (fun r s' => ∃ q, boxed md c = some q ∧ Ok s [] (FourPost w Z q) r s') (fun e s' => boxed md c = none ∧ Fail base outer s e s') s := by
  refine wpAny_call ?_
  have W' := Cc.W
  k_dflt (refine' enterC (binds := [(("shelf" : Str), .ref S), (("page" : Str), .ref pg)]) (led := (S, instObj 405 dS) :: (dS, shD w k3 k4 T T2) :: (T, oT) :: (pg, instObj 424 dpg) :: (dpg, d2 w "reference" "fields" k5 k6 (.ref R) (.ref fd)) :: (fd, ofd) :: Z) Cc hl ?k6 ?k7 ?k8 ?k9 ?kB ?kD ?_ ?c2 ?c3 ?c4; (case k6 => k_is); (case k7 => k_is); (case k8 => decide); (case k9 => exact BindsTo.of_eq rfl); (case kB => exact rfl); (case kD => decide +kernel); (case c2 => exact rfl); (case c3 => exact rfl); (case c4 => exact rfl))
  intro g L' h' tk' cells' G F' N' Y' l1 B' X' T'
  obtain ⟨oc1, oc2, hE', dc1, dc2⟩ := CellsAre.two Y'; subst hE'; clear Y'
  k_lt l1
  simp only [List.cons_append, List.nil_append] at N'
  (try dsimp only); (try k_fold)
  repeat' ((fail_if_success (with_reducible show wpAny _ _ (call (Value.ref 433) _) _ _ _)); first | (k_unfold; (try dsimp only)) | walk1 | (dsimp only; walk1) | fail "no step")
  refine use_four (pre := [_, _, _, _, _, _, _, _]) (by assumption) (by assumption) (by assumption) (by assumption) ⟨rfl, rfl⟩ ⟨rfl, le_of_ble rfl, rfl, le_of_ble rfl⟩ (by k_mem) (by k_mem) (by k_mem) hd lo hTb hn hb ?q1 ?e1
  case e1 =>
    intro e s' hD f
    subst hD
    (try dsimp only); (try k_unfold)
    exact on_end G hl B' F' N' (by simp only [List.forall_mem_cons]; exact ⟨by k_mem, by k_mem, by k_mem, by k_mem, by k_mem, by k_mem, fun q hq => by repeat (first | exact hq | refine List.mem_cons_of_mem _ ?_)⟩) ⟨rfl, rfl⟩ f rfl
  case q1 =>
    intro em nn r0 r1 r2 r3 t0 t1 t2 t3 p0 p1 p2 p3 Z1 h' tk hD F' N' sub1 split1 nem mem0 v0 v1 v2 v3
    subst hD
    (try dsimp only); (try k_fold)
    have lsub : ∀ q ∈ ((S, instObj 405 dS) :: (dS, shD w k3 k4 T T2) :: (T, oT) :: (pg, instObj 424 dpg) :: (dpg, d2 w "reference" "fields" k5 k6 (.ref R) (.ref fd)) :: (fd, ofd) :: Z : Led), q ∈ ([(L' + 1 + 1, oc1), (L' + 1, oc2), (S, instObj 405 dS), (dS, shD w k3 k4 T T2), (T, oT), (pg, instObj 424 dpg), (dpg, d2 w "reference" "fields" k5 k6 (.ref R) (.ref fd)), (fd, ofd)] ++ Z : Led) := fun q hq => .tail _ (.tail _ hq)
    have lsplit1 : ∀ q ∈ Z1, q ∈ Z ∨ ∀ x ∈ ((S, instObj 405 dS) :: (dS, shD w k3 k4 T T2) :: (T, oT) :: (pg, instObj 424 dpg) :: (dpg, d2 w "reference" "fields" k5 k6 (.ref R) (.ref fd)) :: (fd, ofd) :: Z : Led), x.1 ≠ q.1 := fun q hq => (split1 q hq).imp id fun h x hx => h x (lsub x hx)
    have lne : ∀ x ∈ ((S, instObj 405 dS) :: (dS, shD w k3 k4 T T2) :: (T, oT) :: (pg, instObj 424 dpg) :: (dpg, d2 w "reference" "fields" k5 k6 (.ref R) (.ref fd)) :: (fd, ofd) :: Z : Led), x.1 ≠ em := fun x hx => nem x (lsub x hx)
    simp only [List.cons_append, List.nil_append] at N'
    have cel1 : ∀ q ∈ Z1, q.1 ≠ L' + 1 := fun q hq => (split1 q hq).elim (fun h e => by have := allLt_mem l1.2.2.2.2.2.2 q h; rw [e] at this; exact absurd this (Nat.not_lt.mpr (Nat.le_succ _))) fun h => Ne.symm (h (L' + 1, oc2) (.tail _ (.head _)))
    have cel2 : ∀ q ∈ Z1, q.1 ≠ L' + 1 + 1 := fun q hq => (split1 q hq).elim (fun h e => by have := allLt_mem l1.2.2.2.2.2.2 q h; rw [e] at this; exact absurd this (Nat.not_lt.mpr (Nat.le_trans (Nat.le_succ _) (Nat.le_succ _)))) fun h => Ne.symm (h (L' + 1 + 1, oc1) (.head _))
    clear split1 nem hb
    rcases hc with ⟨rfl, rfl⟩ | ⟨cv0, rfl, hrv, rfl⟩ | ⟨cv0, cd, rfl, hbv, rfl⟩
    · repeat' ((fail_if_success (with_reducible show ∃ _ _ _, _ = Value.ref _ ∧ _)); (fail_if_success (k_end; (try dsimp only); (with_reducible show ∃ _, boxed _ _ = some _ ∧ _))); (first | (k_unfold; (try dsimp only)) | walk1 | (dsimp only; walk1) | fail "no step"))
      all_goals (try dsimp only)
      exact boxr_end (Zt := Z1) G hl (by assumption) (by assumption) (by simp only [List.forall_mem_cons]; exact ⟨by k_mem, by k_mem, by k_mem, by k_mem, by k_mem, by k_mem, fun q hq => by repeat (first | exact sub1 q hq | refine List.mem_cons_of_mem _ ?_)⟩) (fun q hq => by repeat (first | exact hq | refine List.mem_cons_of_mem _ ?_)) lsplit1 (by k_mem) lne v0 v1 v2 v3 rfl
    · have hgone : valueAt kvs 900 = none := hTb.none (by omega)
      replace hrv := hrv.mono sub1
      repeat' ((fail_if_success (with_reducible show ∃ _ _ _, _ = Value.ref _ ∧ _)); (fail_if_success (k_end; (try dsimp only); (with_reducible show ∃ _, boxed _ _ = some _ ∧ _))); (first | (k_unfold; (try dsimp only)) | walk1 | (dsimp only; walk1) | fail "no step"))
      all_goals (try dsimp only)
      exact boxr_end (Zt := Z1) G hl (by assumption) (by assumption) (by simp only [List.forall_mem_cons]; exact ⟨by k_mem, by k_mem, by k_mem, by k_mem, by k_mem, by k_mem, fun q hq => by repeat (first | exact sub1 q hq | refine List.mem_cons_of_mem _ ?_)⟩) (fun q hq => by repeat (first | exact hq | refine List.mem_cons_of_mem _ ?_)) lsplit1 (by k_mem) lne v0 v1 v2 v3 rfl
    · have hbv0 := hbv.mono sub1
      repeat' ((fail_if_success (with_reducible show wpAny _ _ (call (Value.ref 433) _) _ _ _)); first | (k_unfold; (try dsimp only)) | walk1 | (dsimp only; walk1) | fail "no step")
      refine use_four (pre := [_, _, _, _, _, _, _, _]) (by assumption) (by assumption) (by assumption) (by assumption) ⟨rfl, rfl⟩ ⟨rfl, le_of_ble rfl, rfl, le_of_ble rfl⟩ (by k_mem) (by k_mem) (by k_mem) hd lo hTb hn hbv0 ?q2 ?e2
      case e2 =>
        intro e s' hD f
        subst hD
        (try dsimp only); (try k_unfold)
        exact on_end G hl B' (by assumption) (by assumption) (by simp only [List.forall_mem_cons]; exact ⟨by k_mem, by k_mem, by k_mem, by k_mem, by k_mem, by k_mem, fun q hq => by repeat (first | exact sub1 q hq | refine List.mem_cons_of_mem _ ?_)⟩) ⟨rfl, rfl⟩ f rfl
      case q2 =>
        intro ec nc s0 s1 s2 s3 x0 x1 x2 x3 y0 y1 y2 y3 Z2 h' tk hD F' N' sub2 split2 nec mem2 c0 c1 c2 c3
        subst hD
        (try dsimp only); (try k_fold)
        have lsplit2 : ∀ q ∈ Z2, q ∈ Z ∨ ∀ x ∈ ((S, instObj 405 dS) :: (dS, shD w k3 k4 T T2) :: (T, oT) :: (pg, instObj 424 dpg) :: (dpg, d2 w "reference" "fields" k5 k6 (.ref R) (.ref fd)) :: (fd, ofd) :: Z : Led), x.1 ≠ q.1 := fun q hq => (split2 q hq).elim (lsplit1 q) fun h => .inr fun x hx => h x (six_sub sub1 x hx)
        have cel3 : ∀ q ∈ Z2, q.1 ≠ L' + 1 := fun q hq => (split2 q hq).elim (cel1 q) fun h => Ne.symm (h (L' + 1, _) (.tail _ (.head _)))
        have cel4 : ∀ q ∈ Z2, q.1 ≠ L' + 1 + 1 := fun q hq => (split2 q hq).elim (cel2 q) fun h => Ne.symm (h (L' + 1 + 1, _) (.head _))
        replace v0 := v0.mono sub2; replace v1 := v1.mono sub2; replace v2 := v2.mono sub2; replace v3 := v3.mono sub2
        replace mem0 := sub2 _ mem0
        clear split2 lsplit1 nec lne cel1 cel2 hbv hbv0
        simp only [List.cons_append, List.nil_append] at N'
        repeat' ((fail_if_success (with_reducible show ∃ _ _ _, _ = Value.ref _ ∧ _)); (fail_if_success (k_end; (try dsimp only); (with_reducible show ∃ _, boxed _ _ = some _ ∧ _))); (first | (k_unfold; (try dsimp only)) | ((with_reducible show CompEnd _ _ _ _ _ _ _ _ _ _ _ _ _ _); walk1) | ((with_reducible show CompRest _ _ _ _ _ _ _ _ _ _ _ _ _ _ _ _ _ _ _); walk1) | ((with_reducible show FinA _ _ _ _ _ _ _ _); walk1) | ((with_reducible show TupSrc _ _ _ _ _ _ _ _ _ _ _ _ _ _); (refine TupSrc.intro (by rfl) (by assumption) (by assumption) (by k_mem) (by first | size_fits | exact Nat.le_of_ble_eq_true rfl) (fun g' => ?_)); lcg_lit) | (k_unfold; (try dsimp only)) | walk1 | (dsimp only; walk1) | fail "no step"))
        all_goals (try dsimp only)
        rotate_left 2
        · exact boxr_end (Zt := Z2) G hl (by assumption) (by assumption) (by simp only [List.forall_mem_cons]; exact ⟨by k_mem, by k_mem, by k_mem, by k_mem, by k_mem, by k_mem, fun q hq => by repeat (first | exact sub2 q (sub1 q hq) | refine List.mem_cons_of_mem _ ?_)⟩) (fun q hq => by repeat (first | exact hq | refine List.mem_cons_of_mem _ ?_)) lsplit2 (by k_mem) (by simp only [List.forall_mem_cons]; exact ⟨by k_ne, by k_ne, by k_ne, by k_ne, by k_ne, by k_ne, fun q hq => Nat.ne_of_lt (allLt_mem (by (rename _ ∧ _ => hl9); (repeat (first | exact hl9 | (replace hl9 := hl9.2)))) q (sub2 q (sub1 q hq)))⟩) (by assumption) (by assumption) (by assumption) (by assumption) (cut_some (by assumption) (by assumption) (by assumption) (by assumption) (sg_le (by assumption) (by assumption)) (sg_le (by assumption) (by assumption)))
        · exact raise_end W' G hl (by assumption) (by assumption) (by assumption) (by simp only [List.forall_mem_cons]; exact ⟨by k_mem, by k_mem, by k_mem, by k_mem, by k_mem, by k_mem, fun q hq => by repeat (first | exact sub2 q (sub1 q hq) | refine List.mem_cons_of_mem _ ?_)⟩) ⟨rfl, rfl⟩ (by assumption) (by assumption) (cut_none (by assumption) (by assumption) (by assumption) (by assumption) (by first | exact .inl (Iff.mp (by assumption) (by assumption)) | exact .inr (Iff.mp (by assumption) (by assumption)) | omega))
        · exact raise_end W' G hl (by assumption) (by assumption) (by assumption) (by simp only [List.forall_mem_cons]; exact ⟨by k_mem, by k_mem, by k_mem, by k_mem, by k_mem, by k_mem, fun q hq => by repeat (first | exact sub2 q (sub1 q hq) | refine List.mem_cons_of_mem _ ?_)⟩) ⟨rfl, rfl⟩ (by assumption) (by assumption) (cut_none (by assumption) (by assumption) (by assumption) (by assumption) (by first | exact .inl (Iff.mp (by assumption) (by assumption)) | exact .inr (Iff.mp (by assumption) (by assumption)) | omega))
end
end
section
theorem rg_Sides : True := by
  k_with_none
  (k_with "omA" => (first | (with_reducible (first | exact And.left ‹_› | exact And.left (And.right ‹_›) | exact And.left (And.right (And.right ‹_›)) | exact And.left (And.right (And.right (And.right ‹_›))) | exact And.left (And.right (And.right (And.right (And.right ‹_›)))) | exact And.left (And.right (And.right (And.right (And.right (And.right ‹_›))))) | exact And.left (And.right (And.right (And.right (And.right (And.right (And.right ‹_›)))))) | exact And.left (And.right (And.right (And.right (And.right (And.right (And.right (And.right ‹_›))))))) | exact And.left (And.right (And.right (And.right (And.right (And.right (And.right (And.right (And.right ‹_›)))))))) | exact And.left (And.right (And.right (And.right (And.right (And.right (And.right (And.right (And.right (And.right ‹_›))))))))) | exact And.left (And.right (And.right (And.right (And.right (And.right (And.right (And.right (And.right (And.right (And.right ‹_›)))))))))) | exact And.left (And.right (And.right (And.right (And.right (And.right (And.right (And.right (And.right (And.right (And.right (And.right ‹_›))))))))))) | exact And.left (And.right (And.right (And.right (And.right (And.right (And.right (And.right (And.right (And.right (And.right (And.right (And.right ‹_›)))))))))))) | exact And.left (And.right (And.right (And.right (And.right (And.right (And.right (And.right (And.right (And.right (And.right (And.right (And.right (And.right ‹_›))))))))))))) | exact And.left (And.right (And.right (And.right (And.right (And.right (And.right (And.right (And.right (And.right (And.right (And.right (And.right (And.right (And.right ‹_›)))))))))))))) | exact And.left (And.right (And.right (And.right (And.right (And.right (And.right (And.right (And.right (And.right (And.right (And.right (And.right (And.right (And.right (And.right ‹_›))))))))))))))) | exact And.left (And.right (And.right (And.right (And.right (And.right (And.right (And.right (And.right (And.right (And.right (And.right (And.right (And.right (And.right (And.right (And.right ‹_›)))))))))))))))) | exact And.right ‹_› | exact And.right (And.right ‹_›) | exact And.right (And.right (And.right ‹_›)) | exact And.right (And.right (And.right (And.right ‹_›))) | exact And.right (And.right (And.right (And.right (And.right ‹_›)))))) | fail))
  (k_with "omC" => (first | decide | fail))
  (k_with "omU" => (first | (k_extra "omC") | (with_reducible (first | exact o_le ‹_› (by decide) | exact o_lel ‹_› (by decide) | exact o_mul ‹_› (by decide) (by decide) | exact o_mull ‹_› (by decide) (by decide))) | ((with_reducible refine o_chl ‹_› ?_); k_extra "omU") | ((with_reducible refine o_addc ?_); k_extra "omU") | ((with_reducible refine o_subc ?_); k_extra "omU") | ((with_reducible refine o_subv ‹_› ?_); k_extra "omU") | ((with_reducible refine o_add2 ‹_› ?_); k_extra "omU") | ((with_reducible refine o_add2l ‹_› ?_); k_extra "omU") | ((with_reducible refine o_addl ?_); k_extra "omU") | ((with_reducible refine o_addm ‹_› (by decide) ?_); k_extra "omU") | fail))
  (k_with "omL" => (first | (k_extra "omC") | (with_reducible (first | exact o_ge ‹_› (by decide) | exact o_gel ‹_› (by decide) | exact o_gmul ‹_› (by decide) (by decide))) | ((with_reducible refine o_gaddc ?_); k_extra "omL") | ((with_reducible refine o_gsubc ?_); k_extra "omL") | ((with_reducible refine o_gsubv ‹_› ?_); k_extra "omL") | ((with_reducible refine o_gsubvl ‹_› ?_); k_extra "omL") | ((with_reducible refine o_gadd2 ‹_› ?_); k_extra "omL") | ((with_reducible refine o_gaddl ?_); k_extra "omL") | ((with_reducible refine o_gaddm ‹_› (by decide) ?_); k_extra "omL") | fail))
  (k_with "omR" => (first | (with_reducible (first | exact o_self (by decide))) | ((with_reducible refine o_ch ‹_› ?_); k_extra "omR") | ((with_reducible refine o_addch ?_); k_extra "omR") | fail))
  (k_with "omZ" => (first | (k_extra "omR") | (k_extra "omU") | (k_extra "omL") | fail))
  (k_with "omX" => (first | decide | (k_extra "omZ") | (with_reducible (first | exact Int.le_refl _ | exact Nat.le_refl _ | exact o_nle ‹_› (by decide) | exact o_nlt ‹_› (by decide) | exact o_nlel ‹_› (by decide))) | ((with_reducible refine o_ltc ?_); k_extra "omZ") | ((with_reducible refine o_gtc ?_); k_extra "omZ") | (with_reducible (first | exact o_iffn ‹_› ‹_› | exact o_neql ‹_› (by decide) | exact o_neqi ‹_› (by decide))) | ((with_reducible show _ < _); (first | (with_reducible exact Iff.mp ‹_› ‹_›) | k_extra "omA")) | ((repeat (rename _ ≠ _ => hz; clear hz)); (repeat (rename _ ≠ _ ∧ _ => hz; clear hz)); omega +splitDisjunctions) | fail))
  (k_with "omN" => (first | (with_reducible (first | exact o_n1 | exact o_n1' | exact o_ne ‹_› | exact o_ne' ‹_› | exact o_lt ‹_› | exact o_gt ‹_› | exact o_ne (by k_extra "omA") | exact o_ne' (by k_extra "omA") | exact o_lt (by k_extra "omA") | exact o_gt (by k_extra "omA") | exact o_lts1 (by k_extra "omA") | exact o_lts1' (by k_extra "omA") | exact o_lts2 (by k_extra "omA") | exact o_lts2' (by k_extra "omA") | exact o_gt2 ‹_› (by k_extra "omA") | exact o_lt2 ‹_› (by k_extra "omA"))) | fail))
  (k_with "om" => (first | with_reducible assumption | ((first | (with_reducible show _ ≤ _) | (with_reducible show _ < _)); k_extra "omX") | ((with_reducible show _ = _ → False); k_extra "omN") | fail))
  trivial
open PySem PySem.W PyProof.Rows PySem.Calls PyProof.Rows.LCg
theorem reg_sides : PySem.Challenge.rw_nn0125_01 = PySem.Challenge.rw_nn0125_01 ∧ KX = KX := by k_fill; exact ⟨rfl, rfl⟩
def SidesV (A : Led) (v : Value) (due : Option Q4) : Prop := (due = none ∧ ∃ k, v = .str "refused" k) ∨ ∃ e n a b c d t0 t1 t2 t3, due = some (a, b, c, d) ∧ v = .ref e ∧ (e, listOf #[.int a t0, .int b t1, .int c t2, .int d t3] n) ∈ A
theorem eq_list_str {w : World} {A : Around} {E : Value → Shared → Prop} {Q : Value → Shared → Prop} {s : Shared} {h₀ : Heap} {L e : Addr} {news : Led} {xs : Array Value} {n : Nat} {x : Str} {k : Tok} (N : News h₀ L s.heap news) (hm : (e, listOf xs n) ∈ news) (hu : A.units ≤ 9000) (h : Q (.bool false) s) :
    wpAny (model PW w) A (compareOp .Eq (.ref e) (.str x k)) Q E s :=
  PySem.SeqAt.RcAt.list_str x k (News.isList N hm) (Nat.lt_of_le_of_lt hu (by decide)) _ _ _ _ h
theorem cend_same {h₀ : Heap} {L I C D : Addr} {m : Str → Option Value} {s₁ : Shared} {oI oC oD : Obj} {S : List (Addr × Obj) → Prop} {rest : Value → List (Addr × Obj) → Prop} {y : Value} {h' : Heap} {tk : Nat} {nw : List (Addr × Obj)}
    (F : Fr h₀ L h' m) (N : News h₀ L h' ((I, oI) :: (C, oC) :: (D, oD) :: nw)) (off : Off3 I C D nw) (hS : S nw) (r : rest y nw) : CompEnd h₀ L m s₁ I oI C oC D oD S rest y { s₁ with heap := h', toks := tk } := CompEnd.intro F N nw (fun _ hq => hq) off hS r
theorem off1_not {D : Addr} : ∀ {led : Led}, Off1 D led → D ∉ led.map (·.1)
  | [], _ => (fun h => nomatch h)
  | p :: r, x => fun h => by
    rcases List.mem_cons.mp h with e | e
    · exact x.1 e.symm
    · exact off1_not x.2 e
theorem sides_end {base : Heap} {outer : List Env} {s : Shared} {led rest : Led} {g h' : Heap} {L' D : Addr} {m' : Str → Option Value} {tk : Nat} {a b c d : Int} {t0 t1 t2 t3 : Tok} {q : Option Q4} (G : Ground s led g) (hl : LedOk base outer s.heap led) (F : Fr g L' h' m')
    (N : News g L' h' ((D, lst [.int a t0, .int b t1, .int c t2, .int d t3]) :: rest)) (still : ∀ x ∈ led, x ∈ rest) (off : D ∉ led.map (·.1)) (hq : q = some (a, b, c, d)) : Ok s [] (fun nw r => SidesV nw r q) (.ref D) { s with heap := h', toks := tk } :=
  still_end (nw := [(D, lst [.int a t0, .int b t1, .int c t2, .int d t3])]) G hl F N (fun q hq => .tail _ (still q hq)) (fun q hq => by rw [List.mem_singleton.mp hq]; exact ⟨.head _, off⟩) (.inr ⟨D, _, a, b, c, d, t0, t1, t2, t3, hq, rfl, .head _⟩)
section
variable {w : World} {p : Program} {loose : List Str} {mean : ExcName → Option Value} {mg mb : Str → Option Value} {base : Heap} {outer : List Env} {s : Shared} {dp un : Nat} {gd : Option (List Code)}
theorem rg_Sides20 : True := by
  (k_with "exec For Name Call cons nil" => ((k_here; (rename Fr _ _ _ _ => lF'); (with_unfolding_all refine' For_invVF lF' ?k1z1 ?k2z1 ?_; (case k1z1 => exact rfl); (case k2z1 => exact rfl); k_whole))))
  (k_with "exec For Name Subscript cons nil" => ((k_here; (rename Fr _ _ _ _ => lF'); (with_unfolding_all refine' For_invVF lF' ?k1z2 ?k2z2 ?_; (case k1z2 => exact rfl); (case k2z2 => exact rfl); k_whole))))
  (k_with "k_ne" => (((try dsimp only); first | with_reducible assumption | with_reducible exact Ne.symm (by with_reducible assumption) | (refine neN ?_; omega))))
  (k_with "subscriptTail" => ((k_here; (with_reducible show wpAny _ _ (subscriptTail _ _ (Value.ref _) (Value.int _ _)) _ _ _); k_dflt ((with_unfolding_all refine' item_litK ?k1z4 ?k2z4 ?k3z4 ?k4z4 ?_ ?k6z4); (case k1z4 => exact News.isList (by k_asm) (by k_mem)); (case k2z4 => decide); (case k3z4 => decide); (case k4z4 => rfl); (case k6z4 => with_unfolding_all rfl)); k_whole)))
  (k_with "subscriptTail Name Constant ref int" => ((k_here; (with_reducible show wpAny _ _ (subscriptTail _ _ (Value.ref _) (Value.int _ _)) _ _ _); k_dflt ((with_unfolding_all refine' item_litK ?k1z5 ?k2z5 ?k3z5 ?k4z5 ?_ ?k6z5); (case k1z5 => exact News.isList (by k_asm) (by k_mem)); (case k2z5 => decide); (case k3z5 => decide); (case k4z5 => rfl); (case k6z5 => with_unfolding_all rfl)); k_whole)))
  (k_with "k_mem" => (((repeat (first | exact List.mem_cons_self | refine List.mem_cons_of_mem _ ?_)); (try (with_reducible_and_instances assumption)); done)))
  (k_with "binaryOp Pow int int" => ((k_here; (with_reducible refine pow_ex ?haz7 ?hXz7 ?hbz7 ?hYz7 ?_); (case haz7 => decide); (case hXz7 => decide); (case hbz7 => omega); (case hYz7 => omega))))
  (k_with "binaryOp Mult int int" => ((k_here; (with_reducible refine mul_linL ?haz8 ?hbz8 ?_); (case haz8 => omega); (case hbz8 => omega))))
  (k_with "eval ListComp" => ((k_here; first | ((with_reducible show wpAny _ _ (eval (Expr.ListComp _ [⟨_, _, [], _⟩] _ _) _) _ _ _); k_dflt (refine PyProof.Rows.LCg.ListComp_U (F₀ := by k_asm) (by with_unfolding_all rfl) (by decide) (by rfl) (by decide) (by rfl) ?_)) | ((with_reducible show wpAny _ _ (eval (Expr.ListComp _ [⟨_, _, [_], _⟩] _ _) _) _ _ _); k_dflt (refine LCt.ListComp_T (F₀ := by k_asm) (by with_unfolding_all rfl) (by decide) (by rfl) (by decide) (by rfl) ?_)))))
  (k_with "CompSrcT" => ((k_here; k_dflt (refine LCt.CompSrcT.ledger (by rfl) (by k_asm) (by k_asm) (by k_mem) (by first | size_fits | exact Nat.le_of_ble_eq_true rfl) ?_); intro _; (with_unfolding_all show LCt.CompRestT _ _ _ _ _ _ _ _ _ _ _ _ _ _ _ _ 4 _ _ _))))
  (k_with "CompSrc" => ((k_here; k_dflt (refine LCg.CompSrc.ledger (by rfl) (by k_asm) (by k_asm) (by k_mem) (by first | size_fits | exact Nat.le_of_ble_eq_true rfl) ?_); intro _; (with_unfolding_all show LCg.CompRest _ _ _ _ _ _ _ _ _ _ _ _ _ _ _ 4 _ _ _))))
  (k_with "CompRestT" => ((with_unfolding_all first | (refine LCt.CompRestT.succ ?_; intro _ _ _ _ _ _ _ _ _ _ hv' _ _ _ _ _ _; lcg_open hv') | refine LCt.CompRestT.zero ?_)))
  (k_with "CompRest" => ((with_unfolding_all first | (refine CompRest.succ ?_; intro _ _ _ _ _ _ _ _ _ _ hv' _ _ _ _ _ _; lcg_open hv') | refine CompRest.zero ?_)))
  (k_with "FinE" => (((unfold LCg.FinE); intro _ _ _ _ N'; (try simp only [List.nil_append, List.cons_append] at N'); revert N'; intro _ _; (try dsimp only))))
  (k_with "CompEnd" => ((k_dflt (refine' cend_same ?Fz15 ?Nz15 ?offz15 ?Sz15 ?_; (case Fz15 => assumption); (case Nz15 => assumption); (case offz15 => assumption); (case Sz15 => exact .inr ⟨listOf _ _, by k_mem, rfl, _, rfl⟩)))))
  (k_with "compareOp Eq ref str" => ((k_here; k_dflt (refine' eq_list_str ?Nz16 ?mz16 ?uz16 ?_; (case Nz16 => k_asm); (case mz16 => k_mem); (case uz16 => exact le_of_ble rfl); k_whole))))
  (k_with "compareOp Eq" => ((k_here; (with_reducible show wpAny _ _ (compareOp CmpOp.Eq (Value.ref _) (Value.str _ _)) _ _ _); k_dflt (refine' eq_list_str ?Nz17 ?mz17 ?uz17 ?_; (case Nz17 => k_asm); (case mz17 => k_mem); (case uz17 => exact le_of_ble rfl); k_whole))))
  trivial
set_option maxRecDepth 100000
set_option maxHeartbeats 8000000
theorem thou_str {k : Tok} (Cc : Cx w p loose mean mg mb base outer s.heap) :
    wpAny (model PW w) (kA 520 4600 gd outer) (call (.ref 488) [.str "refused" k]) (Ok s [] (fun nw r => nw = [] ∧ ∃ k, r = .str "refused" k)) Never s := by
  refine wpAny_call ?_
  k_dflt (refine' enterP Cc ?k6 ?k7 ?k8 ?k9 ?kB ?_ ?c2 ?c3 ?c4 ?c5; (case k6 => k_is); (case k7 => k_is); (case k8 => decide); (case k9 => exact BindsTo.of_eq rfl); (case c5 => decide); (case kB => exact locs rfl); (case c2 => exact rfl); (case c3 => exact rfl); (case c4 => exact rfl))
  intro L' h' F' N' B' X' T'
  (try dsimp only); (try k_fold)
  repeat' (first | (k_end; exact pure_end (nw := []) (by assumption) (by assumption) (fun _ hq => nomatch hq) ⟨rfl, _, rfl⟩) | (k_unfold; (try dsimp only)) | walk1 | (dsimp only; walk1) | fail "no step")
  all_goals w_report
theorem thou_list {e a0 a1 a2 a3 d0 d1 d2 d3 : Addr} {n : Nat} {t0 t1 t2 t3 p0 p1 p2 p3 : Int} {k00 k01 k02 k03 k10 k11 k12 k13 k20 k21 k22 k23 k30 k31 k32 k33 : Tok} (Cc : Cx w p loose mean mg mb base outer s.heap)
    (hl : LedOk base outer s.heap [(e, listOf #[.ref a0, .ref a1, .ref a2, .ref a3] n), (a0, instObj 155 d0), (d0, decD w k00 k01 k02 k03 t0 p0), (a1, instObj 155 d1), (d1, decD w k10 k11 k12 k13 t1 p1), (a2, instObj 155 d2), (d2, decD w k20 k21 k22 k23 t2 p2), (a3, instObj 155 d3), (d3, decD w k30 k31 k32 k33 t3 p3)])
    (b0 : 0 ≤ p0 ∧ p0 ≤ 3 ∧ -1000000 ≤ t0 ∧ t0 ≤ 1000000) (b1 : 0 ≤ p1 ∧ p1 ≤ 3 ∧ -1000000 ≤ t1 ∧ t1 ≤ 1000000) (b2 : 0 ≤ p2 ∧ p2 ≤ 3 ∧ -1000000 ≤ t2 ∧ t2 ≤ 1000000) (b3 : 0 ≤ p3 ∧ p3 ≤ 3 ∧ -1000000 ≤ t3 ∧ t3 ≤ 1000000) :
    wpAny (model PW w) (kA 520 4600 gd outer) (call (.ref 488) [.ref e]) (Ok s [] (fun nw r => SidesV nw r (some (wth t0 p0, wth t1 p1, wth t2 p2, wth t3 p3)))) Never s := by
  refine wpAny_call ?_
  k_dflt (refine' enter (led := [(e, listOf #[.ref a0, .ref a1, .ref a2, .ref a3] n), (a0, instObj 155 d0), (d0, decD w k00 k01 k02 k03 t0 p0), (a1, instObj 155 d1), (d1, decD w k10 k11 k12 k13 t1 p1), (a2, instObj 155 d2), (d2, decD w k20 k21 k22 k23 t2 p2), (a3, instObj 155 d3), (d3, decD w k30 k31 k32 k33 t3 p3)]) Cc hl ?k6 ?k7 ?k8 ?k9 ?kB ?_ ?c2 ?c3 ?c4 ?c5; (case k6 => k_is); (case k7 => k_is); (case k8 => decide); (case k9 => exact BindsTo.of_eq rfl); (case c5 => decide); (case kB => exact locs rfl); (case c2 => exact rfl); (case c3 => exact rfl); (case c4 => exact rfl))
  intro g L' h' G hL' F' N' B' X' T'
  have l1 : ∀ q ∈ ([(e, listOf #[.ref a0, .ref a1, .ref a2, .ref a3] n), (a0, instObj 155 d0), (d0, decD w k00 k01 k02 k03 t0 p0), (a1, instObj 155 d1), (d1, decD w k10 k11 k12 k13 t1 p1), (a2, instObj 155 d2), (d2, decD w k20 k21 k22 k23 t2 p2), (a3, instObj 155 d3), (d3, decD w k30 k31 k32 k33 t3 p3)] : Led), q.1 < L' := fun q hq => hL' ▸ Heap.lt_size (hl q hq).1
  k_lt l1
  (try dsimp only); (try k_fold)
  repeat' ((fail_if_success (k_end; (try dsimp only); (with_reducible show Ok _ _ _ _ _))); first | (k_unfold; (try dsimp only)) | walk1 | (dsimp only; walk1) | fail "no step")
  all_goals (try dsimp only)
  rename Off1 _ _ => o9
  exact sides_end G hl (by assumption) (by assumption) (fun q hq => .tail _ (.tail _ hq)) (off1_not o9.2.2) rfl
end
end
section
theorem rg_Cut : True := by
  k_with_none
  (k_with "omA" => (first | (with_reducible (first | exact And.left ‹_› | exact And.left (And.right ‹_›) | exact And.left (And.right (And.right ‹_›)) | exact And.left (And.right (And.right (And.right ‹_›))) | exact And.left (And.right (And.right (And.right (And.right ‹_›)))) | exact And.left (And.right (And.right (And.right (And.right (And.right ‹_›))))) | exact And.left (And.right (And.right (And.right (And.right (And.right (And.right ‹_›)))))) | exact And.left (And.right (And.right (And.right (And.right (And.right (And.right (And.right ‹_›))))))) | exact And.left (And.right (And.right (And.right (And.right (And.right (And.right (And.right (And.right ‹_›)))))))) | exact And.left (And.right (And.right (And.right (And.right (And.right (And.right (And.right (And.right (And.right ‹_›))))))))) | exact And.left (And.right (And.right (And.right (And.right (And.right (And.right (And.right (And.right (And.right (And.right ‹_›)))))))))) | exact And.left (And.right (And.right (And.right (And.right (And.right (And.right (And.right (And.right (And.right (And.right (And.right ‹_›))))))))))) | exact And.left (And.right (And.right (And.right (And.right (And.right (And.right (And.right (And.right (And.right (And.right (And.right (And.right ‹_›)))))))))))) | exact And.left (And.right (And.right (And.right (And.right (And.right (And.right (And.right (And.right (And.right (And.right (And.right (And.right (And.right ‹_›))))))))))))) | exact And.left (And.right (And.right (And.right (And.right (And.right (And.right (And.right (And.right (And.right (And.right (And.right (And.right (And.right (And.right ‹_›)))))))))))))) | exact And.left (And.right (And.right (And.right (And.right (And.right (And.right (And.right (And.right (And.right (And.right (And.right (And.right (And.right (And.right (And.right ‹_›))))))))))))))) | exact And.left (And.right (And.right (And.right (And.right (And.right (And.right (And.right (And.right (And.right (And.right (And.right (And.right (And.right (And.right (And.right (And.right ‹_›)))))))))))))))) | exact And.right ‹_› | exact And.right (And.right ‹_›) | exact And.right (And.right (And.right ‹_›)) | exact And.right (And.right (And.right (And.right ‹_›))) | exact And.right (And.right (And.right (And.right (And.right ‹_›)))))) | fail))
  (k_with "omC" => (first | decide | fail))
  (k_with "omU" => (first | (k_extra "omC") | (with_reducible (first | exact o_le ‹_› (by decide) | exact o_lel ‹_› (by decide) | exact o_mul ‹_› (by decide) (by decide) | exact o_mull ‹_› (by decide) (by decide))) | ((with_reducible refine o_chl ‹_› ?_); k_extra "omU") | ((with_reducible refine o_addc ?_); k_extra "omU") | ((with_reducible refine o_subc ?_); k_extra "omU") | ((with_reducible refine o_subv ‹_› ?_); k_extra "omU") | ((with_reducible refine o_add2 ‹_› ?_); k_extra "omU") | ((with_reducible refine o_add2l ‹_› ?_); k_extra "omU") | ((with_reducible refine o_addl ?_); k_extra "omU") | ((with_reducible refine o_addm ‹_› (by decide) ?_); k_extra "omU") | fail))
  (k_with "omL" => (first | (k_extra "omC") | (with_reducible (first | exact o_ge ‹_› (by decide) | exact o_gel ‹_› (by decide) | exact o_gmul ‹_› (by decide) (by decide))) | ((with_reducible refine o_gaddc ?_); k_extra "omL") | ((with_reducible refine o_gsubc ?_); k_extra "omL") | ((with_reducible refine o_gsubv ‹_› ?_); k_extra "omL") | ((with_reducible refine o_gsubvl ‹_› ?_); k_extra "omL") | ((with_reducible refine o_gadd2 ‹_› ?_); k_extra "omL") | ((with_reducible refine o_gaddl ?_); k_extra "omL") | ((with_reducible refine o_gaddm ‹_› (by decide) ?_); k_extra "omL") | fail))
  (k_with "omR" => (first | (with_reducible (first | exact o_self (by decide))) | ((with_reducible refine o_ch ‹_› ?_); k_extra "omR") | ((with_reducible refine o_addch ?_); k_extra "omR") | fail))
  (k_with "omZ" => (first | (k_extra "omR") | (k_extra "omU") | (k_extra "omL") | fail))
  (k_with "omX" => (first | decide | (k_extra "omZ") | (with_reducible (first | exact Int.le_refl _ | exact Nat.le_refl _ | exact o_nle ‹_› (by decide) | exact o_nlt ‹_› (by decide) | exact o_nlel ‹_› (by decide))) | ((with_reducible refine o_ltc ?_); k_extra "omZ") | ((with_reducible refine o_gtc ?_); k_extra "omZ") | (with_reducible (first | exact o_iffn ‹_› ‹_› | exact o_neql ‹_› (by decide) | exact o_neqi ‹_› (by decide))) | ((with_reducible show _ < _); (first | (with_reducible exact Iff.mp ‹_› ‹_›) | k_extra "omA")) | ((repeat (rename _ ≠ _ => hz; clear hz)); (repeat (rename _ ≠ _ ∧ _ => hz; clear hz)); omega +splitDisjunctions) | fail))
  (k_with "omN" => (first | (with_reducible (first | exact o_n1 | exact o_n1' | exact o_ne ‹_› | exact o_ne' ‹_› | exact o_lt ‹_› | exact o_gt ‹_› | exact o_ne (by k_extra "omA") | exact o_ne' (by k_extra "omA") | exact o_lt (by k_extra "omA") | exact o_gt (by k_extra "omA") | exact o_lts1 (by k_extra "omA") | exact o_lts1' (by k_extra "omA") | exact o_lts2 (by k_extra "omA") | exact o_lts2' (by k_extra "omA") | exact o_gt2 ‹_› (by k_extra "omA") | exact o_lt2 ‹_› (by k_extra "omA"))) | fail))
  (k_with "om" => (first | with_reducible assumption | ((first | (with_reducible show _ ≤ _) | (with_reducible show _ < _)); k_extra "omX") | ((with_reducible show _ = _ → False); k_extra "omN") | fail))
  trivial
open PySem PySem.W PyProof.Rows PySem.Calls PyProof.Rows.LCg
theorem reg_cut : PySem.Challenge.rw_nn0125_01 = PySem.Challenge.rw_nn0125_01 ∧ KX = KX := by k_fill; exact ⟨rfl, rfl⟩
theorem mx {a b : Int} : (if b > a then b else a) = max a b := by rw [Int.max_def]; split <;> split <;> omega
theorem mn {a b : Int} : (if b < a then b else a) = min a b := by rw [Int.min_def]; split <;> split <;> omega
theorem cut_end {base : Heap} {outer : List Env} {s : Shared} {led rest : Led} {g h' : Heap} {L' D : Addr} {n : Nat} {m' : Str → Option Value} {tk : Nat} {a b c d : Int} {t0 t1 t2 t3 : Tok} {q : Option Q4} (G : Ground s led g) (hl : LedOk base outer s.heap led) (F : Fr g L' h' m')
    (N : News g L' h' ((D, listOf #[.int a t0, .int b t1, .int c t2, .int d t3] n) :: rest)) (still : ∀ x ∈ led, x ∈ rest) (off : ∀ q ∈ led, q.1 ≠ D) (hq : q = some (a, b, c, d)) : Ok s [] (fun nw r => SidesV nw r q) (.ref D) { s with heap := h', toks := tk } :=
  still_end (nw := [(D, listOf #[.int a t0, .int b t1, .int c t2, .int d t3] n)]) G hl F N (fun q hq => .tail _ (still q hq)) (fun q hq => by
    rw [List.mem_singleton.mp hq]
    refine ⟨.head _, fun h => ?_⟩
    obtain ⟨x, hx, e⟩ := List.mem_map.mp h
    exact off x hx e) (.inr ⟨D, _, a, b, c, d, t0, t1, t2, t3, hq, rfl, .head _⟩)
section
variable {w : World} {p : Program} {loose : List Str} {mean : ExcName → Option Value} {mg mb : Str → Option Value} {base : Heap} {outer : List Env} {s : Shared} {dp un : Nat} {gd : Option (List Code)}
theorem rg_Cut13 : True := by
  (k_with "exec For Name Call cons nil" => ((k_here; (rename Fr _ _ _ _ => lF'); (with_unfolding_all refine' For_invVF lF' ?k1z1 ?k2z1 ?_; (case k1z1 => exact rfl); (case k2z1 => exact rfl); k_whole))))
  (k_with "exec For Name Subscript cons nil" => ((k_here; (rename Fr _ _ _ _ => lF'); (with_unfolding_all refine' For_invVF lF' ?k1z2 ?k2z2 ?_; (case k1z2 => exact rfl); (case k2z2 => exact rfl); k_whole))))
  (k_with "k_ne" => (((try dsimp only); first | with_reducible assumption | with_reducible exact Ne.symm (by with_reducible assumption) | (refine neN ?_; omega))))
  (k_with "subscriptTail" => ((k_here; (with_reducible show wpAny _ _ (subscriptTail _ _ (Value.ref _) (Value.int _ _)) _ _ _); k_dflt ((with_unfolding_all refine' item_litK ?k1z4 ?k2z4 ?k3z4 ?k4z4 ?_ ?k6z4); (case k1z4 => exact News.isList (by k_asm) (by k_mem)); (case k2z4 => decide); (case k3z4 => decide); (case k4z4 => rfl); (case k6z4 => with_unfolding_all rfl)); k_whole)))
  (k_with "subscriptTail Name Constant ref int" => ((k_here; (with_reducible show wpAny _ _ (subscriptTail _ _ (Value.ref _) (Value.int _ _)) _ _ _); k_dflt ((with_unfolding_all refine' item_litK ?k1z5 ?k2z5 ?k3z5 ?k4z5 ?_ ?k6z5); (case k1z5 => exact News.isList (by k_asm) (by k_mem)); (case k2z5 => decide); (case k3z5 => decide); (case k4z5 => rfl); (case k6z5 => with_unfolding_all rfl)); k_whole)))
  (k_with "k_all" => (with_reducible assumption))
  (k_with "k_mem" => (((repeat (first | exact List.mem_cons_self | refine List.mem_cons_of_mem _ ?_)); (try (with_reducible_and_instances assumption)); done)))
  trivial
set_option maxRecDepth 100000
set_option maxHeartbeats 8000000
theorem cut_ok {e1 e2 : Addr} {n1 n2 : Nat} {a0 a1 a2 a3 b0 b1 b2 b3 : Int} {t0 t1 t2 t3 u0 u1 u2 u3 : Tok} (Cc : Cx w p loose mean mg mb base outer s.heap)
    (hl : LedOk base outer s.heap [(e1, listOf #[.int a0 t0, .int a1 t1, .int a2 t2, .int a3 t3] n1), (e2, listOf #[.int b0 u0, .int b1 u1, .int b2 u2, .int b3 u3] n2)]) :
    wpAny (model PW w) (kA 520 4600 gd outer) (call (.ref 495) [.ref e1, .ref e2]) (Ok s [] (fun nw r => SidesV nw r (cutQ (a0, a1, a2, a3) (b0, b1, b2, b3)))) Never s := by
  refine wpAny_call ?_
  k_dflt (refine' enter (led := [(e1, listOf #[.int a0 t0, .int a1 t1, .int a2 t2, .int a3 t3] n1), (e2, listOf #[.int b0 u0, .int b1 u1, .int b2 u2, .int b3 u3] n2)]) Cc hl ?k6 ?k7 ?k8 ?k9 ?kB ?_ ?c2 ?c3 ?c4 ?c5; (case k6 => k_is); (case k7 => k_is); (case k8 => decide); (case k9 => exact BindsTo.of_eq rfl); (case c5 => decide); (case kB => exact locs rfl); (case c2 => exact rfl); (case c3 => exact rfl); (case c4 => exact rfl))
  intro g L' h' G hL' F' N' B' X' T'
  (try dsimp only); (try k_fold)
  repeat' ((fail_if_success (k_end; (try dsimp only); (with_reducible show Ok _ _ _ _ _))); first | (k_unfold; (try dsimp only)) | walk1 | (dsimp only; walk1) | fail "no step")
  all_goals (try dsimp only)
  all_goals first | exact cut_end G hl (by assumption) (by assumption) (fun q hq => hq) (by simp only [List.forall_mem_cons]; exact ⟨by k_ne, by k_ne, fun _ hq => nomatch hq⟩) (cut_some mx mx mn mn (by assumption) (by assumption)) | exact still_end (nw := []) G hl (by assumption) (by assumption) (fun q hq => .tail _ hq) (fun _ hq => nomatch hq) (.inl ⟨cut_none mx mx mn mn (by dsimp only; omega), _, rfl⟩)
end
end
section
theorem rg_Heard : True := by
  k_with_none
  (k_with "omA" => (first | (with_reducible (first | exact And.left ‹_› | exact And.left (And.right ‹_›) | exact And.left (And.right (And.right ‹_›)) | exact And.left (And.right (And.right (And.right ‹_›))) | exact And.left (And.right (And.right (And.right (And.right ‹_›)))) | exact And.left (And.right (And.right (And.right (And.right (And.right ‹_›))))) | exact And.left (And.right (And.right (And.right (And.right (And.right (And.right ‹_›)))))) | exact And.left (And.right (And.right (And.right (And.right (And.right (And.right (And.right ‹_›))))))) | exact And.left (And.right (And.right (And.right (And.right (And.right (And.right (And.right (And.right ‹_›)))))))) | exact And.left (And.right (And.right (And.right (And.right (And.right (And.right (And.right (And.right (And.right ‹_›))))))))) | exact And.left (And.right (And.right (And.right (And.right (And.right (And.right (And.right (And.right (And.right (And.right ‹_›)))))))))) | exact And.left (And.right (And.right (And.right (And.right (And.right (And.right (And.right (And.right (And.right (And.right (And.right ‹_›))))))))))) | exact And.left (And.right (And.right (And.right (And.right (And.right (And.right (And.right (And.right (And.right (And.right (And.right (And.right ‹_›)))))))))))) | exact And.left (And.right (And.right (And.right (And.right (And.right (And.right (And.right (And.right (And.right (And.right (And.right (And.right (And.right ‹_›))))))))))))) | exact And.left (And.right (And.right (And.right (And.right (And.right (And.right (And.right (And.right (And.right (And.right (And.right (And.right (And.right (And.right ‹_›)))))))))))))) | exact And.left (And.right (And.right (And.right (And.right (And.right (And.right (And.right (And.right (And.right (And.right (And.right (And.right (And.right (And.right (And.right ‹_›))))))))))))))) | exact And.left (And.right (And.right (And.right (And.right (And.right (And.right (And.right (And.right (And.right (And.right (And.right (And.right (And.right (And.right (And.right (And.right ‹_›)))))))))))))))) | exact And.right ‹_› | exact And.right (And.right ‹_›) | exact And.right (And.right (And.right ‹_›)) | exact And.right (And.right (And.right (And.right ‹_›))) | exact And.right (And.right (And.right (And.right (And.right ‹_›)))))) | fail))
  (k_with "omC" => (first | decide | fail))
  (k_with "omU" => (first | (k_extra "omC") | (with_reducible (first | exact o_le ‹_› (by decide) | exact o_lel ‹_› (by decide) | exact o_mul ‹_› (by decide) (by decide) | exact o_mull ‹_› (by decide) (by decide))) | ((with_reducible refine o_chl ‹_› ?_); k_extra "omU") | ((with_reducible refine o_addc ?_); k_extra "omU") | ((with_reducible refine o_subc ?_); k_extra "omU") | ((with_reducible refine o_subv ‹_› ?_); k_extra "omU") | ((with_reducible refine o_add2 ‹_› ?_); k_extra "omU") | ((with_reducible refine o_add2l ‹_› ?_); k_extra "omU") | ((with_reducible refine o_addl ?_); k_extra "omU") | ((with_reducible refine o_addm ‹_› (by decide) ?_); k_extra "omU") | fail))
  (k_with "omL" => (first | (k_extra "omC") | (with_reducible (first | exact o_ge ‹_› (by decide) | exact o_gel ‹_› (by decide) | exact o_gmul ‹_› (by decide) (by decide))) | ((with_reducible refine o_gaddc ?_); k_extra "omL") | ((with_reducible refine o_gsubc ?_); k_extra "omL") | ((with_reducible refine o_gsubv ‹_› ?_); k_extra "omL") | ((with_reducible refine o_gsubvl ‹_› ?_); k_extra "omL") | ((with_reducible refine o_gadd2 ‹_› ?_); k_extra "omL") | ((with_reducible refine o_gaddl ?_); k_extra "omL") | ((with_reducible refine o_gaddm ‹_› (by decide) ?_); k_extra "omL") | fail))
  (k_with "omR" => (first | (with_reducible (first | exact o_self (by decide))) | ((with_reducible refine o_ch ‹_› ?_); k_extra "omR") | ((with_reducible refine o_addch ?_); k_extra "omR") | fail))
  (k_with "omZ" => (first | (k_extra "omR") | (k_extra "omU") | (k_extra "omL") | fail))
  (k_with "omX" => (first | decide | (k_extra "omZ") | (with_reducible (first | exact Int.le_refl _ | exact Nat.le_refl _ | exact o_nle ‹_› (by decide) | exact o_nlt ‹_› (by decide) | exact o_nlel ‹_› (by decide))) | ((with_reducible refine o_ltc ?_); k_extra "omZ") | ((with_reducible refine o_gtc ?_); k_extra "omZ") | (with_reducible (first | exact o_iffn ‹_› ‹_› | exact o_neql ‹_› (by decide) | exact o_neqi ‹_› (by decide))) | ((with_reducible show _ < _); (first | (with_reducible exact Iff.mp ‹_› ‹_›) | k_extra "omA")) | ((repeat (rename _ ≠ _ => hz; clear hz)); (repeat (rename _ ≠ _ ∧ _ => hz; clear hz)); omega +splitDisjunctions) | fail))
  (k_with "omN" => (first | (with_reducible (first | exact o_n1 | exact o_n1' | exact o_ne ‹_› | exact o_ne' ‹_› | exact o_lt ‹_› | exact o_gt ‹_› | exact o_ne (by k_extra "omA") | exact o_ne' (by k_extra "omA") | exact o_lt (by k_extra "omA") | exact o_gt (by k_extra "omA") | exact o_lts1 (by k_extra "omA") | exact o_lts1' (by k_extra "omA") | exact o_lts2 (by k_extra "omA") | exact o_lts2' (by k_extra "omA") | exact o_gt2 ‹_› (by k_extra "omA") | exact o_lt2 ‹_› (by k_extra "omA"))) | fail))
  (k_with "om" => (first | with_reducible assumption | ((first | (with_reducible show _ ≤ _) | (with_reducible show _ < _)); k_extra "omX") | ((with_reducible show _ = _ → False); k_extra "omN") | fail))
  trivial
open PySem PySem.W PyProof.Rows PySem.Calls
theorem reg_heard : PySem.Challenge.rw_nn0125_01 = PySem.Challenge.rw_nn0125_01 ∧ KX = KX := by k_fill; exact ⟨rfl, rfl⟩
def OkS (l : List Env) (s : Shared) (mt : List Addr) (Post : Led → Value → Prop) (r : Value) (s' : Shared) : Prop :=
  ∃ h' tk' nw, s' = { s with heap := h', toks := tk' } ∧ (∀ b o, s.heap.get? b = some o → b ∉ mt → b ∉ frs l → h'.get? b = some o) ∧ (∀ b o, s.heap.get? b = some o → b ∈ frs l → ∃ sl, h'.get? b = some { o with slots := sl }) ∧
    (∀ q ∈ nw, h'.get? q.1 = some q.2 ∧ (s.heap.get? q.1 = none ∨ q.1 ∈ mt)) ∧ Post nw r
theorem frs_cons {env : Env} {L b : Addr} {l : List Env} (hk : EnvAt env L) (h : b ∈ frs (env :: l)) : b = L ∨ b ∈ frs l := by
  obtain ⟨e, he, hf⟩ := List.mem_filterMap.mp h
  rcases List.mem_cons.mp he with rfl | he
  · rw [hk.1] at hf; exact .inl (Option.some.inj hf).symm
  · exact .inr (List.mem_filterMap.mpr ⟨e, he, hf⟩)
theorem frs_head {env : Env} {L : Addr} {l : List Env} (hk : EnvAt env L) : L ∈ frs (env :: l) := List.mem_filterMap.mpr ⟨env, .head _, hk.1⟩
theorem frs_tail {env : Env} {b : Addr} {l : List Env} (h : b ∈ frs l) : b ∈ frs (env :: l) := by
  obtain ⟨e, he, hf⟩ := List.mem_filterMap.mp h
  exact List.mem_filterMap.mpr ⟨e, .tail _ he, hf⟩
section
variable {M : Model} {A A₀ : Around} {t : Sem Value} {s : Shared} {mt : List Addr} {Post : Led → Value → Prop} {base h₀ : Heap} {outer : List Env} {L : Addr} {m : Str → Option Value} {news rest led : Led} {Q : Value → Shared → Prop} {E : Value → Shared → Prop} {env : Env}
  {w : World} {p : Program} {loose : List Str} {mean : ExcName → Option Value} {mg mb : Str → Option Value}
theorem use_okS (c : wpAny M A t (OkS (env :: outer) s mt Post) Never s) (W : Wd w p loose mean mg mb base) (B : Below A₀ base outer h₀) (F : Fr h₀ L s.heap m) (N : News h₀ L s.heap news) (hk : EnvAt env L) (D : KtsDicts (frs outer) h₀) (hr : ∀ q ∈ rest, q ∈ news ∧ q.1 ∉ mt) (hm : ∀ a ∈ mt, h₀.get? a = none ∧ a ≠ L)
    (k : ∀ r h' g' tk' nw, KtsTurn (frs outer) h₀ g' → Fr g' L h' m → News g' L h' (nw ++ rest) → (∀ q ∈ nw, ∀ x ∈ rest, x.1 ≠ q.1) → Below A₀ base outer g' → (KX w.params).In g' → Top p loose mean mg mb g' → KtsDicts (frs outer) g' → Post nw r → Q r { s with heap := h', toks := tk' }) : wpAny M A t Q E s := by
  refine wpAny_mono c (fun r s' hok => ?_) fun _ _ x => x.elim
  obtain ⟨h', tk', nw, rfl, hkp, hsl, hn, hp⟩ := hok
  have hL0 := kts_self F
  have mtf : ∀ b o, h₀.get? b = some o → b ∉ mt := fun b o e q => by rw [(hm b q).1] at e; cases e
  obtain ⟨T, S⟩ := kts_turn_at (h := h') (fs := frs outer) (g := h₀)
    (fun b hb => by
      obtain ⟨_, o, ho, _⟩ := B.frames.mem hb
      exact ⟨o, ho⟩)
    (fun b o e nm => hkp b o (F.keep b o e) (mtf b o e) fun hmm => by
      rcases frs_cons hk hmm with z | z
      · rw [z, hL0] at e; cases e
      · exact nm z)
    (fun b o e hb => hsl b o (F.keep b o e) (frs_tail hb))
  obtain ⟨oL, es, ep, hL, hLd⟩ := F.ns
  obtain ⟨sl, hL'⟩ := hsl L oL hL (frs_head hk)
  have B' : Below A₀ base outer (ktsHeap h' (frs outer) h₀) := ⟨B.stack, fun b o e => T.other b o (B.stays b o e) (fun hm => by
    rw [(B.frames.mem hm).1] at e
    cases e), B.frames.of_keeps fun b o e _ => by
    obtain ⟨sl, hs⟩ := T.up e
    exact ⟨_, hs, rfl⟩⟩
  refine k r h' _ tk' nw T ⟨⟨_, es, ep, hL', hLd⟩, S, by rw [T.size]; exact F.above⟩ (fun q hq => ?_) (fun q hq x hx => ?_) B' (W.X.keeps B'.stays) (W.T.keeps B'.stays) (D.turn T) hp
  · rcases List.mem_append.mp hq with hq | hq
    · obtain ⟨a1, a2⟩ := hn q hq
      have a3 : h₀.get? q.1 = none := by
        rcases a2 with a2 | a2
        · cases e : h₀.get? q.1 with
          | none => rfl
          | some o => rw [F.keep _ _ e] at a2; cases a2
        · exact (hm _ a2).1
      refine ⟨a1, fun e => ?_, T.none_ _ a3⟩
      rcases a2 with a2 | a2
      · rw [e, hL] at a2; cases a2
      · exact (hm _ a2).2 e
    · obtain ⟨b1, b2⟩ := hr q hq
      obtain ⟨c1, c2, c3⟩ := N q b1
      refine ⟨hkp _ _ c1 b2 fun hmm => ?_, c2, T.none_ _ c3⟩
      rcases frs_cons hk hmm with z | z
      · exact c2 z
      · obtain ⟨_, o, ho, _⟩ := B.frames.mem z
        rw [c3] at ho; cases ho
  · obtain ⟨b1, b2⟩ := hr x hx
    obtain ⟨a1, a2⟩ := hn q hq
    rintro e
    rcases a2 with a2 | a2
    · rw [← e, (N x b1).1] at a2; cases a2
    · exact b2 (e ▸ a2)
theorem led_endS {g g' h' : Heap} {L' : Addr} {m' : Str → Option Value} {all nw : Led} {r : Value} {tk : Nat} (G : Ground s led g) (hl : LedOk base outer s.heap led) (T : KtsTurn (frs outer) g g') (F : Fr g' L' h' m') (N : News g' L' h' all) (sub : ∀ q ∈ nw, q ∈ all) (hp : Post nw r) :
    OkS outer s (led.map (·.1)) Post r { s with heap := h', toks := tk } := by
  refine ⟨h', tk, nw, rfl, fun b o e n nf => F.keep b o (T.other b o (G.keep b o e n) nf), fun b o e hf => ?_, fun q hq => ⟨(N q (sub q hq)).1, ?_⟩, hp⟩
  · have n : b ∉ led.map (·.1) := fun hm => by
      obtain ⟨x, hx, rfl⟩ := List.mem_map.mp hm
      obtain ⟨en, he, hfe⟩ := List.mem_filterMap.mp hf
      exact (hl x hx).2.2 en he hfe
    obtain ⟨sl, hs⟩ := T.frame b o (G.keep b o e n) hf
    exact ⟨sl, F.keep _ _ hs⟩
  · by_cases hm : q.1 ∈ led.map (·.1)
    · exact .inr hm
    · refine .inl ?_
      cases e : s.heap.get? q.1 with
      | none => rfl
      | some o =>
        obtain ⟨sl, hs⟩ := T.up (G.keep _ _ e hm)
        have := (N q (sub q hq)).2.2
        rw [hs] at this; cases this
end
section
variable {w : World} {p : Program} {loose : List Str} {mean : ExcName → Option Value} {mg mb : Str → Option Value} {base : Heap} {outer : List Env} {s : Shared} {dp un : Nat} {gd : Option (List Code)}
def Asks (w : World) (p : Program) (loose : List Str) (mean : ExcName → Option Value) (mg mb : Str → Option Value) (base : Heap) (outer : List Env) (h : Heap) (f : Addr) (Post : Led → Value → Prop) (Dn : Prop) : Prop :=
  ∀ gd env s₁, Cx w p loose mean mg mb base (env :: outer) s₁.heap → (∀ b o, h.get? b = some o → s₁.heap.get? b = some o) → (∀ b o, h.get? b = some o → env.frame ≠ some b) →
    wpAny (model PW w) (kA 530 4650 gd (env :: outer)) (call (.ref f) []) (Ok s₁ [] Post) (fun e s' => Dn ∧ Fail base (env :: outer) s₁ e s') s₁
theorem use_ask {A A₀ : Around} {h₀ : Heap} {L f : Addr} {m : Str → Option Value} {env : Env} {Q : Value → Shared → Prop} {E : Value → Shared → Prop} {Post : Led → Value → Prop} {Dn : Prop} (W : Wd w p loose mean mg mb base) (B : Below A₀ base outer h₀) (F : Fr h₀ L s.heap m) (hk : EnvAt env L) (a1 : A.handled = none ∧ A.depth ≤ 530 ∧ A.frames = some (env :: outer) ∧ A.units ≤ 4650)
    (hask : Asks w p loose mean mg mb base outer h₀ f Post Dn) (kQ : ∀ r h' tk nw, Fr h₀ L h' m → News h₀ L h' nw → Post nw r → Q r { s with heap := h', toks := tk }) (kE : ∀ a t vs h' tk, RaisedS base s.heap (env :: outer) a (.ref 59) t vs [] h' → s.heap.UpToSlots h' → Dn → E (.ref a) { s with heap := h', toks := tk }) :
    wpAny (model PW w) A (call (.ref f) []) Q E s := by
  have c := call_le (hask A.guards env s (cx_of W B F hk) F.keep (fun b o e hf => by rw [hk.1] at hf; cases hf; exact absurd (Nat.lt_of_lt_of_le (Heap.lt_size e) F.above) (Nat.lt_irrefl _))) a1.1 a1.2.1 a1.2.2.1 a1.2.2.2
  refine wpAny_mono c (fun r s' hok => ?_) fun e s' hf => ?_
  · obtain ⟨h', tk', nw, rfl, hkp, hn, hp⟩ := hok
    have keep : ∀ b o, s.heap.get? b = some o → h'.get? b = some o := fun b o e => hkp b o e (fun q => nomatch q)
    obtain ⟨oL, es, ep, hL, hLd⟩ := F.ns
    refine kQ r h' tk' nw ⟨⟨oL, es, ep, keep _ _ hL, hLd⟩, fun b o e => keep b o (F.keep b o e), F.above⟩ (fun q hq => ?_) hp
    obtain ⟨a1, a2⟩ := hn q hq
    have a2' := a2.resolve_right (fun z => nomatch z)
    refine ⟨a1, fun e => ?_, ?_⟩
    · rw [e, hL] at a2'; cases a2'
    · cases e : h₀.get? q.1 with
      | none => rfl
      | some o => rw [F.keep _ _ e] at a2'; cases a2'
  · obtain ⟨hD, a, t, vs, h', tk', rfl, rfl, R, up⟩ := hf
    exact kE a t vs h' tk' R up hD
theorem fnAt_keep {h h' : Heap} {f : Addr} (x : FnAt f h) (k : ∀ b o, h.get? b = some o → h'.get? b = some o) : FnAt f h' := by
  obtain ⟨oc, od, fd, sl, e⟩ := x
  exact ⟨oc, od, fd, sl, k _ _ e⟩
abbrev HeardPost (Post : Led → Value → Prop) (Dn : Prop) (nw : Led) (r : Value) : Prop := Post nw r ∨ Dn ∧ nw = [] ∧ ∃ k, r = .str "refused" k
theorem heard_ret {h' : Heap} {L : Addr} {m : Str → Option Value} {nw : Led} {r : Value} {tk : Nat} {Post : Led → Value → Prop} {Dn : Prop} (uCc : Cx w p loose mean mg mb base outer s.heap) (F : Fr s.heap L h' m) (N : News s.heap L h' nw) (hp : Post nw r) :
    OkS outer s [] (HeardPost Post Dn) r { s with heap := h', toks := tk } :=
  led_endS (led := []) (g := s.heap) ⟨fun _ _ e _ => e, fun _ _ e => ⟨e, (fun h => nomatch h)⟩⟩ (fun _ h => nomatch h : LedOk base outer s.heap []) KtsTurn.refl F N (fun _ h => h) (.inl hp)
theorem heard_ref {g' h' : Heap} {L : Addr} {m : Str → Option Value} {tk : Nat} {k : Tok} {Post : Led → Value → Prop} {Dn : Prop} (uCc : Cx w p loose mean mg mb base outer s.heap) (T : KtsTurn (frs outer) s.heap g') (F : Fr g' L h' m) (hD : Dn) :
    OkS outer s [] (HeardPost Post Dn) (.str "refused" k) { s with heap := h', toks := tk } :=
  led_endS (led := []) (g := s.heap) (all := []) ⟨fun _ _ e _ => e, fun _ _ e => ⟨e, (fun h => nomatch h)⟩⟩ (fun _ h => nomatch h : LedOk base outer s.heap []) T F (fun _ h => nomatch h) (fun _ h => h) (.inr ⟨hD, rfl, _, rfl⟩)
theorem rg_Heard120 : True := by
  (k_with "exec For Name Call cons nil" => ((k_here; (rename Fr _ _ _ _ => lF'); (with_unfolding_all refine' For_invVF lF' ?k1z1 ?k2z1 ?_; (case k1z1 => exact rfl); (case k2z1 => exact rfl); k_whole))))
  (k_with "exec For Name Subscript cons nil" => ((k_here; (rename Fr _ _ _ _ => lF'); (with_unfolding_all refine' For_invVF lF' ?k1z2 ?k2z2 ?_; (case k1z2 => exact rfl); (case k2z2 => exact rfl); k_whole))))
  (k_with "callWith ref" => ((k_here; k_dflt (refine' callWith_F0 ?k1z3 ?_; (case k1z3 => exact fnAt_keep (by assumption) (Fr.keep (by assumption))); k_whole; (try dsimp only [List.nil_append])))))
  (k_with "call ref" => ((k_here; k_dflt (refine' use_ask ?Wz4 ?Bz4 ?Fz4 ?hkz4 ?a1z4 ?haz4 ?_ ?_; (case Fz4 => k_asm); (case Wz4 => assumption); (case Bz4 => assumption); (case a1z4 => exact ⟨rfl, le_of_ble rfl, rfl, le_of_ble rfl⟩); (case hkz4 => exact ⟨rfl, rfl⟩); (case haz4 => assumption)); rotate_left; (intro _ _ _ h' tk' _ _ _); rotate_right; (intro _ _ _ _ _ _ _))))
  (k_with "exec Try" => ((k_here; refine wpAny_Try_except ?_)))
  (k_with "noteFrame ref" => ((k_here; (rename RaisedS _ _ _ _ _ _ _ _ _ => rsX); k_dflt (refine' caught_SO0 rsX ?Fz6 ?Kz6 ?upz6 ?XBz6 ?TBz6 ?Dz6 ?T0z6 ?exz6 ?qz6 ?_; (case Fz6 => k_asm); (case Kz6 => assumption); (case upz6 => assumption); (case XBz6 => exact Wd.X (by assumption)); (case TBz6 => exact Wd.T (by assumption)); (case Dz6 => assumption); (case T0z6 => exact KtsTurn.refl); (case exz6 => k_is); (case qz6 => kts_isx)); intro _ _ _ _ _ _ _ _ _ _ _ _)))
  trivial
set_option maxRecDepth 100000
set_option maxHeartbeats 8000000
theorem heard_ok {f : Addr} {Post : Led → Value → Prop} {Dn : Prop} (Cc : Cx w p loose mean mg mb base outer s.heap) (D : KtsDicts (frs outer) s.heap) (hf : FnAt f s.heap) (hask : Asks w p loose mean mg mb base outer s.heap f Post Dn) :
    wpAny (model PW w) (kA 520 4600 gd outer) (call (.ref 483) [.ref f]) (OkS outer s [] (HeardPost Post Dn)) Never s := by
  refine wpAny_call ?_
  have W' := Cc.W
  k_dflt (refine' enterP Cc ?k6 ?k7 ?k8 ?k9 ?kB ?_ ?c2 ?c3 ?c4 ?c5; (case k6 => k_is); (case k7 => k_is); (case k8 => decide); (case k9 => exact BindsTo.of_eq rfl); (case c5 => decide); (case kB => exact locs rfl); (case c2 => exact rfl); (case c3 => exact rfl); (case c4 => exact rfl))
  intro L' h' F' N' B' X' T'
  (try dsimp only); (try k_fold)
  repeat' (first | (k_end; exact heard_ret Cc (by assumption) (by assumption) (by assumption)) | (k_end; exact heard_ref Cc (by assumption) (by assumption) (by assumption)) | (k_unfold; (try dsimp only)) | walk1 | (dsimp only; walk1) | fail "no step")
  all_goals w_report
end
end
section
theorem rg_Use4 : True := by
  k_with_none
  (k_with "omA" => (first | (with_reducible (first | exact And.left ‹_› | exact And.left (And.right ‹_›) | exact And.left (And.right (And.right ‹_›)) | exact And.left (And.right (And.right (And.right ‹_›))) | exact And.left (And.right (And.right (And.right (And.right ‹_›)))) | exact And.left (And.right (And.right (And.right (And.right (And.right ‹_›))))) | exact And.left (And.right (And.right (And.right (And.right (And.right (And.right ‹_›)))))) | exact And.left (And.right (And.right (And.right (And.right (And.right (And.right (And.right ‹_›))))))) | exact And.left (And.right (And.right (And.right (And.right (And.right (And.right (And.right (And.right ‹_›)))))))) | exact And.left (And.right (And.right (And.right (And.right (And.right (And.right (And.right (And.right (And.right ‹_›))))))))) | exact And.left (And.right (And.right (And.right (And.right (And.right (And.right (And.right (And.right (And.right (And.right ‹_›)))))))))) | exact And.left (And.right (And.right (And.right (And.right (And.right (And.right (And.right (And.right (And.right (And.right (And.right ‹_›))))))))))) | exact And.left (And.right (And.right (And.right (And.right (And.right (And.right (And.right (And.right (And.right (And.right (And.right (And.right ‹_›)))))))))))) | exact And.left (And.right (And.right (And.right (And.right (And.right (And.right (And.right (And.right (And.right (And.right (And.right (And.right (And.right ‹_›))))))))))))) | exact And.left (And.right (And.right (And.right (And.right (And.right (And.right (And.right (And.right (And.right (And.right (And.right (And.right (And.right (And.right ‹_›)))))))))))))) | exact And.left (And.right (And.right (And.right (And.right (And.right (And.right (And.right (And.right (And.right (And.right (And.right (And.right (And.right (And.right (And.right ‹_›))))))))))))))) | exact And.left (And.right (And.right (And.right (And.right (And.right (And.right (And.right (And.right (And.right (And.right (And.right (And.right (And.right (And.right (And.right (And.right ‹_›)))))))))))))))) | exact And.right ‹_› | exact And.right (And.right ‹_›) | exact And.right (And.right (And.right ‹_›)) | exact And.right (And.right (And.right (And.right ‹_›))) | exact And.right (And.right (And.right (And.right (And.right ‹_›)))))) | fail))
  (k_with "omC" => (first | decide | fail))
  (k_with "omU" => (first | (k_extra "omC") | (with_reducible (first | exact o_le ‹_› (by decide) | exact o_lel ‹_› (by decide) | exact o_mul ‹_› (by decide) (by decide) | exact o_mull ‹_› (by decide) (by decide))) | ((with_reducible refine o_chl ‹_› ?_); k_extra "omU") | ((with_reducible refine o_addc ?_); k_extra "omU") | ((with_reducible refine o_subc ?_); k_extra "omU") | ((with_reducible refine o_subv ‹_› ?_); k_extra "omU") | ((with_reducible refine o_add2 ‹_› ?_); k_extra "omU") | ((with_reducible refine o_add2l ‹_› ?_); k_extra "omU") | ((with_reducible refine o_addl ?_); k_extra "omU") | ((with_reducible refine o_addm ‹_› (by decide) ?_); k_extra "omU") | fail))
  (k_with "omL" => (first | (k_extra "omC") | (with_reducible (first | exact o_ge ‹_› (by decide) | exact o_gel ‹_› (by decide) | exact o_gmul ‹_› (by decide) (by decide))) | ((with_reducible refine o_gaddc ?_); k_extra "omL") | ((with_reducible refine o_gsubc ?_); k_extra "omL") | ((with_reducible refine o_gsubv ‹_› ?_); k_extra "omL") | ((with_reducible refine o_gsubvl ‹_› ?_); k_extra "omL") | ((with_reducible refine o_gadd2 ‹_› ?_); k_extra "omL") | ((with_reducible refine o_gaddl ?_); k_extra "omL") | ((with_reducible refine o_gaddm ‹_› (by decide) ?_); k_extra "omL") | fail))
  (k_with "omR" => (first | (with_reducible (first | exact o_self (by decide))) | ((with_reducible refine o_ch ‹_› ?_); k_extra "omR") | ((with_reducible refine o_addch ?_); k_extra "omR") | fail))
  (k_with "omZ" => (first | (k_extra "omR") | (k_extra "omU") | (k_extra "omL") | fail))
  (k_with "omX" => (first | decide | (k_extra "omZ") | (with_reducible (first | exact Int.le_refl _ | exact Nat.le_refl _ | exact o_nle ‹_› (by decide) | exact o_nlt ‹_› (by decide) | exact o_nlel ‹_› (by decide))) | ((with_reducible refine o_ltc ?_); k_extra "omZ") | ((with_reducible refine o_gtc ?_); k_extra "omZ") | (with_reducible (first | exact o_iffn ‹_› ‹_› | exact o_neql ‹_› (by decide) | exact o_neqi ‹_› (by decide))) | ((with_reducible show _ < _); (first | (with_reducible exact Iff.mp ‹_› ‹_›) | k_extra "omA")) | ((repeat (rename _ ≠ _ => hz; clear hz)); (repeat (rename _ ≠ _ ∧ _ => hz; clear hz)); omega +splitDisjunctions) | fail))
  (k_with "omN" => (first | (with_reducible (first | exact o_n1 | exact o_n1' | exact o_ne ‹_› | exact o_ne' ‹_› | exact o_lt ‹_› | exact o_gt ‹_› | exact o_ne (by k_extra "omA") | exact o_ne' (by k_extra "omA") | exact o_lt (by k_extra "omA") | exact o_gt (by k_extra "omA") | exact o_lts1 (by k_extra "omA") | exact o_lts1' (by k_extra "omA") | exact o_lts2 (by k_extra "omA") | exact o_lts2' (by k_extra "omA") | exact o_gt2 ‹_› (by k_extra "omA") | exact o_lt2 ‹_› (by k_extra "omA"))) | fail))
  (k_with "om" => (first | with_reducible assumption | ((first | (with_reducible show _ ≤ _) | (with_reducible show _ < _)); k_extra "omX") | ((with_reducible show _ = _ → False); k_extra "omN") | fail))
  trivial
open PySem PySem.W PyProof.Rows PySem.Calls PyProof.Rows.LCg
theorem DueV.mono {A B : Led} {dv : Value} {due : Option Q4} (h : DueV A dv due) (s : ∀ q ∈ A, q ∈ B) : DueV B dv due := by
  rcases h with h | ⟨e, n, a, b, c, d, t0, t1, t2, t3, h1, h2, h3⟩
  · exact .inl h
  · exact .inr ⟨e, n, a, b, c, d, t0, t1, t2, t3, h1, h2, s _ h3⟩
theorem SidesV.mono {A B : Led} {dv : Value} {due : Option Q4} (h : SidesV A dv due) (s : ∀ q ∈ A, q ∈ B) : SidesV B dv due := by
  rcases h with h | ⟨e, n, a, b, c, d, t0, t1, t2, t3, h1, h2, h3⟩
  · exact .inl h
  · exact .inr ⟨e, n, a, b, c, d, t0, t1, t2, t3, h1, h2, s _ h3⟩
theorem BoxL.mono2 {w : World} {A B : Led} {kvs kvs' : List (Int × Value)} {v : Value} {due : Option Q4} (h : BoxL w A kvs v due) (s : ∀ q ∈ A, q ∈ B) (x : ∀ i x, valueAt kvs i = some x → valueAt kvs' i = some x) : BoxL w B kvs' v due := by
  rcases h with ⟨a, o, e, m, c, d⟩ | ⟨a, n, vs, ws, e, m, c, b, h5, d⟩ | ⟨a, n, v0, v1, v2, v3, a0, a1, a2, a3, t0, t1, t2, t3, e, m, c, d⟩
  · exact .inl ⟨a, o, e, s _ m, c, d⟩
  · exact .inr (.inl ⟨a, n, vs, ws, e, s _ m, c.mono s x, b, h5, d⟩)
  · exact .inr (.inr ⟨a, n, v0, v1, v2, v3, a0, a1, a2, a3, t0, t1, t2, t3, e, s _ m, c.mono s x, d⟩)
theorem BoxV.mono2 {w : World} {A B : Led} {kvs kvs' : List (Int × Value)} {v : Value} {due : Option Q4} (h : BoxV w A kvs v due) (s : ∀ q ∈ A, q ∈ B) (x : ∀ i x, valueAt kvs i = some x → valueAt kvs' i = some x) : BoxV w B kvs' v due := by
  rcases h with h | ⟨i, t, v', k0, nn, h1, h2, h3, h4⟩
  · exact .inl (h.mono2 s x)
  · exact .inr ⟨i, t, v', k0, nn, h1.mono s, x _ _ h2, s _ h3, h4.mono2 s x⟩
theorem BoxV.ref {w : World} {A : Led} {kvs : List (Int × Value)} {v : Value} {due : Option Q4} (h : BoxV w A kvs v due) : ∃ a, v = .ref a := by
  rcases h with h | ⟨i, t, v', k0, nn, ⟨a, da, k1, k2, k3, k4, e, _⟩, _⟩
  · exact h.ref
  · exact ⟨a, e⟩
section
variable {w : World} {p : Program} {loose : List Str} {mean : ExcName → Option Value} {mg mb : Str → Option Value} {base : Heap} {outer : List Env} {s : Shared} {A A₀ : Around} {h₀ : Heap} {L : Addr} {m : Str → Option Value} {env : Env} {news led : Led} {Q : Value → Shared → Prop} {E : Value → Shared → Prop}
theorem use_lawbox {P C S dS T T2 : Addr} {spot left n : Int} {k1 k2 k3 k4 : Tok} {nn : Nat} {oT : Obj} {kvs : List (Int × Value)} {vs : List Value} {ns : List Int} {pre Z : Led} (W : Wd w p loose mean mg mb base) (B : Below A₀ base outer h₀) (F : Fr h₀ L s.heap m)
    (N : News h₀ L s.heap (pre ++ (P, penO C spot left k1 k2 nn) :: (S, instObj 405 dS) :: (dS, shD w k3 k4 T T2) :: (T, oT) :: Z)) (hk : EnvAt env L) (a1 : At A (env :: outer) 520 4600) (hC : h₀.IsList C vs.toArray) (ap : Apart P S dS T) (hI : IntsAre vs ns) (hlen : ns.length ≤ 63)
    (hd : oT.IsDictOf (intKind PW w) kvs) (lo : (T == sysModules) = false) (hTb : Tb kvs n) (hn0 : 0 ≤ n) (hn : n ≤ 80) (hs0 : 0 ≤ spot) (hs1 : spot ≤ 80000) (hl0 : 0 ≤ left) (hZ : ∀ q ∈ Z, Off P S dS T q.1) (hpre : ∀ x ∈ pre, Off P S dS T x.1)
    (k : ∀ pr v dv np due spot' left' n' k1' k2' oT' kvs' n2 Z' h' tk, Fr h₀ L h' m → News h₀ L h' (pre ++ (P, penO C spot' left' k1' k2' n') :: (S, instObj 405 dS) :: (dS, shD w k3 k4 T T2) :: (T, oT') :: Z') → (∀ q ∈ Z, q ∈ Z') → (∀ q ∈ Z', Off P S dS T q.1) →
      (∀ q ∈ Z', q ∈ Z ∨ ∀ x ∈ pre, x.1 ≠ q.1) → (pr, tupO #[v, dv] np) ∈ Z' → BoxV w Z' kvs' v due → DueV Z' dv due → oT'.IsDictOf (intKind PW w) kvs' → Tb kvs' n2 → n ≤ n2 → n2 ≤ n + 6 → (∀ i x, valueAt kvs i = some x → valueAt kvs' i = some x) → 0 ≤ spot' → spot' ≤ spot + 23 → 0 ≤ left' → Q (.ref pr) { s with heap := h', toks := tk }) :
    wpAny (model PW w) A (call (.ref 476) [.ref P, .ref S]) Q E s := by
  obtain ⟨mP, mS, mdS, mT⟩ := mem_led rfl (news := pre ++ (P, penO C spot left k1 k2 nn) :: (S, instObj 405 dS) :: (dS, shD w k3 k4 T T2) :: (T, oT) :: Z)
  have ne : ∀ {b : Addr} {o : Obj}, (b, o) ∈ pre ++ (P, penO C spot left k1 k2 nn) :: (S, instObj 405 dS) :: (dS, shD w k3 k4 T T2) :: (T, oT) :: Z → C ≠ b := fun hm z => by
    obtain ⟨o, ho, _⟩ := hC
    have := (N _ hm).2.2
    dsimp only at this
    rw [← z, ho] at this; cases this
  have c := call_le (lawbox_ok (gd := A.guards) (cx_of W B F hk) (led_of (led := [(P, penO C spot left k1 k2 nn), (S, instObj 405 dS), (dS, shD w k3 k4 T T2), (T, oT)]) hk B F N (by simp only [List.forall_mem_cons]; exact ⟨mP, mS, mdS, mT, fun _ hq => nomatch hq⟩)) (stays_list F.keep hC)
    (by simp only [List.mem_cons, List.not_mem_nil, or_false, not_or]; exact ⟨ne mP, ne mS, ne mdS, ne mT⟩) ap hI hlen hs0 hs1 hl0 hd lo hTb hn0 hn) a1.h a1.d a1.f a1.u
  refine use_ok c F N (rest := pre ++ (S, instObj 405 dS) :: (dS, shD w k3 k4 T T2) :: Z) (fun q hq => ?_) (fun b hb => ?_) fun r h' tk nw F' N' hd' hp => ?_
  · simp only [List.mem_cons, List.not_mem_nil, or_false, not_or]
    rcases List.mem_append.mp hq with hq | hq
    · exact ⟨List.mem_append_left _ hq, (hpre q hq).1, (hpre q hq).2.2.2⟩
    · rcases List.mem_cons.mp hq with rfl | hq
      · exact ⟨mS, Ne.symm ap.p1, ap.s2⟩
      · rcases List.mem_cons.mp hq with rfl | hq
        · exact ⟨mdS, Ne.symm ap.p2, ap.s3⟩
        · exact ⟨List.mem_append_right _ (.tail _ (.tail _ (.tail _ (.tail _ hq)))), (hZ q hq).1, (hZ q hq).2.2.2⟩
  · rcases List.mem_cons.mp hb with rfl | hb
    · exact ⟨(N _ mP).2.2, (N _ mP).2.1⟩
    · rw [List.mem_singleton.mp hb]; exact ⟨(N _ mT).2.2, (N _ mT).2.1⟩
  · obtain ⟨spot', left', n', k1', k2', oT', kvs', n2, A', pr, v, dv, np, due, rfl, rfl, mp, hb, hu, hd2, hTb2, q1, q2, hext, q3, q4, q5, hoff⟩ := hp
    have dn : ∀ q ∈ A', ∀ x ∈ pre ++ (S, instObj 405 dS) :: (dS, shD w k3 k4 T T2) :: Z, x.1 ≠ q.1 := fun q hq x hx => hd' q (.tail _ (.tail _ hq)) x hx
    refine k pr v dv np due spot' left' n' k1' k2' oT' kvs' n2 (A' ++ Z) h' tk F' (fun q hq => ?_) (fun q hq => List.mem_append_right _ hq) (fun q hq => ?_) (fun q hq => ?_) (List.mem_append_left _ mp) (hb.mono fun q hq => List.mem_append_left _ hq) (hu.mono fun q hq => List.mem_append_left _ hq) hd2 hTb2 q1 q2 hext q3 q4 q5
    · rcases List.mem_append.mp hq with hq | hq
      · exact N' q (List.mem_append_right _ (List.mem_append_left _ hq))
      · rcases List.mem_cons.mp hq with rfl | hq
        · exact N' _ (List.mem_append_left _ (.head _))
        · rcases List.mem_cons.mp hq with rfl | hq
          · exact N' _ (List.mem_append_right _ (List.mem_append_right _ (.head _)))
          · rcases List.mem_cons.mp hq with rfl | hq
            · exact N' _ (List.mem_append_right _ (List.mem_append_right _ (.tail _ (.head _))))
            · rcases List.mem_cons.mp hq with rfl | hq
              · exact N' _ (List.mem_append_left _ (.tail _ (.head _)))
              · rcases List.mem_append.mp hq with hq | hq
                · exact N' _ (List.mem_append_left _ (.tail _ (.tail _ hq)))
                · exact N' _ (List.mem_append_right _ (List.mem_append_right _ (.tail _ (.tail _ hq))))
    · rcases List.mem_append.mp hq with hq | hq
      · exact ⟨(hoff q hq).1, Ne.symm (dn q hq _ (List.mem_append_right _ (.head _))), Ne.symm (dn q hq _ (List.mem_append_right _ (.tail _ (.head _)))), (hoff q hq).2⟩
      · exact hZ q hq
    · rcases List.mem_append.mp hq with hq | hq
      · exact .inr fun x hx => dn q hq x (List.mem_append_left _ hx)
      · exact .inl hq
theorem use_cut {e1 e2 : Addr} {n1 n2 : Nat} {x0 x1 x2 x3 b0 b1 b2 b3 : Int} {t0 t1 t2 t3 u0 u1 u2 u3 : Tok} (W : Wd w p loose mean mg mb base) (B : Below A₀ base outer h₀) (F : Fr h₀ L s.heap m) (N : News h₀ L s.heap news) (hk : EnvAt env L) (a1 : At A (env :: outer) 520 4600)
    (m1 : (e1, listOf #[.int x0 t0, .int x1 t1, .int x2 t2, .int x3 t3] n1) ∈ news) (m2 : (e2, listOf #[.int b0 u0, .int b1 u1, .int b2 u2, .int b3 u3] n2) ∈ news)
    (k : ∀ r h' tk nw, Fr h₀ L h' m → News h₀ L h' (nw ++ news) → (∀ q ∈ nw, ∀ x ∈ news, x.1 ≠ q.1) → SidesV nw r (cutQ (x0, x1, x2, x3) (b0, b1, b2, b3)) → Q r { s with heap := h', toks := tk }) : wpAny (model PW w) A (call (.ref 495) [.ref e1, .ref e2]) Q E s :=
  use0 (call_le (cut_ok (gd := A.guards) (cx_of W B F hk) (led_of hk B F N (List.forall_mem_cons.mpr ⟨m1, List.forall_mem_cons.mpr ⟨m2, fun _ hq => nomatch hq⟩⟩))) a1.h a1.d a1.f a1.u) F N fun r h' tk nw hp F' N' hd => k r h' tk nw F' N' hd hp
theorem use_thou {e : Addr} {n : Nat} {r0 r1 r2 r3 : Value} {t0 t1 t2 t3 p0 p1 p2 p3 : Int} (W : Wd w p loose mean mg mb base) (B : Below A₀ base outer h₀) (F : Fr h₀ L s.heap m) (N : News h₀ L s.heap news) (hk : EnvAt env L) (a1 : At A (env :: outer) 520 4600)
    (me : (e, listOf #[r0, r1, r2, r3] n) ∈ news) (d0 : DecV w news r0 t0 p0) (d1 : DecV w news r1 t1 p1) (d2 : DecV w news r2 t2 p2) (d3 : DecV w news r3 t3 p3)
    (k : ∀ r h' tk nw, Fr h₀ L h' m → News h₀ L h' (nw ++ news) → SidesV nw r (some (wth t0 p0, wth t1 p1, wth t2 p2, wth t3 p3)) → Q r { s with heap := h', toks := tk }) : wpAny (model PW w) A (call (.ref 488) [.ref e]) Q E s := by
  obtain ⟨x0, y0, k00, k01, k02, k03, rfl, m0, l0, b0⟩ := d0.parts
  obtain ⟨x1, y1, k10, k11, k12, k13, rfl, m1, l1, b1⟩ := d1.parts
  obtain ⟨x2, y2, k20, k21, k22, k23, rfl, m2, l2, b2⟩ := d2.parts
  obtain ⟨x3, y3, k30, k31, k32, k33, rfl, m3, l3, b3⟩ := d3.parts
  exact use0 (call_le (thou_list (gd := A.guards) (cx_of W B F hk) (led_of hk B F N (by simp only [List.forall_mem_cons]; exact ⟨me, m0, l0, m1, l1, m2, l2, m3, l3, fun _ hq => nomatch hq⟩)) b0 b1 b2 b3) a1.h a1.d a1.f a1.u) F N fun r h' tk nw hp F' N' hd => k r h' tk nw F' N' hp
theorem use_thous {kk : Tok} (W : Wd w p loose mean mg mb base) (B : Below A₀ base outer h₀) (F : Fr h₀ L s.heap m) (N : News h₀ L s.heap news) (hk : EnvAt env L) (a1 : At A (env :: outer) 520 4600)
    (k : ∀ kk h' tk, Fr h₀ L h' m → News h₀ L h' news → Q (.str "refused" kk) { s with heap := h', toks := tk }) : wpAny (model PW w) A (call (.ref 488) [.str "refused" kk]) Q E s :=
  use0 (call_le (thou_str (gd := A.guards) (cx_of W B F hk)) a1.h a1.d a1.f a1.u) F N fun r h' tk nw hp F' N' hd => by
    obtain ⟨rfl, kk', rfl⟩ := hp
    exact k kk' h' tk F' N'
theorem eq_sides {Z1 Z2 : Led} {v u : Value} {q : Option Q4} (N : News h₀ L s.heap news) (hv : SidesV Z1 v q) (hu : SidesV Z2 u q) (s1 : ∀ x ∈ Z1, x ∈ news) (s2 : ∀ x ∈ Z2, x ∈ news) (hr : A.units ≤ 9000) (h : Q (.bool true) s) :
    wpAny (model PW w) A (compareOp .Eq v u) Q E s := by
  rcases hv with ⟨e1, k1, rfl⟩ | ⟨e, n, a, b, c, d, t0, t1, t2, t3, e1, rfl, m1⟩
  · rcases hu with ⟨e2, k2, rfl⟩ | ⟨e', n', a', b', c', d', t0', t1', t2', t3', e2, rfl, m2⟩
    · exact eq_str h
    · rw [e1] at e2; cases e2
  · rcases hu with ⟨e2, k2, rfl⟩ | ⟨e', n', a', b', c', d', t0', t1', t2', t3', e2, rfl, m2⟩
    · rw [e1] at e2; cases e2
    · rw [e1] at e2
      cases e2
      refine ke_eq_ints (xs := [_, _, _, _]) (ys := [_, _, _, _]) (N.isList (s1 _ m1)) (N.isList (s2 _ m2)) (.cons _ _ (.cons _ _ (.cons _ _ (.cons _ _ .nil)))) (.cons _ _ (.cons _ _ (.cons _ _ (.cons _ _ .nil)))) (Nat.lt_of_le_of_lt (Nat.add_le_add_right hr 64) (by decide)) ?_
      rw [decide_eq_true rfl]
      exact h
theorem led_endS2 {g g' h' : Heap} {L' : Addr} {m' : Str → Option Value} {all nw : Led} {mt : List Addr} {Post : Led → Value → Prop} {r : Value} {tk : Nat} (G : Ground s led g) (hl : LedOk base outer s.heap led) (T : KtsTurn (frs outer) g g') (F : Fr g' L' h' m') (N : News g' L' h' all)
    (hk : ∀ q ∈ led, q.1 ∉ mt → q ∈ all) (sub : ∀ q ∈ nw, q ∈ all ∧ (q.1 ∈ mt ∨ q.1 ∉ led.map (·.1))) (hp : Post nw r) : OkS outer s mt Post r { s with heap := h', toks := tk } := by
  refine ⟨h', tk, nw, rfl, fun b o e n nf => ?_, fun b o e hf => ?_, fun q hq => ⟨(N q (sub q hq).1).1, ?_⟩, hp⟩
  · by_cases hb : b ∈ led.map (·.1)
    · obtain ⟨q, hq, rfl⟩ := List.mem_map.mp hb
      have e1 := (hl q hq).1
      rw [e] at e1
      cases e1
      exact (N q (hk q hq n)).1
    · exact F.keep b o (T.other b o (G.keep b o e hb) nf)
  · have n : b ∉ led.map (·.1) := fun hm => by
      obtain ⟨x, hx, rfl⟩ := List.mem_map.mp hm
      obtain ⟨en, he, hfe⟩ := List.mem_filterMap.mp hf
      exact (hl x hx).2.2 en he hfe
    obtain ⟨sl, hs⟩ := T.frame b o (G.keep b o e n) hf
    exact ⟨sl, F.keep _ _ hs⟩
  · rcases (sub q hq).2 with hm | hm
    · exact .inr hm
    · refine .inl ?_
      cases e : s.heap.get? q.1 with
      | none => rfl
      | some o =>
        obtain ⟨sl, hs⟩ := T.up (G.keep _ _ e hm)
        have := (N q (sub q hq).1).2.2
        rw [hs] at this; cases this
end
end
section
theorem rg_Make : True := by
  k_with_none
  (k_with "omA" => (first | (with_reducible (first | exact And.left ‹_› | exact And.left (And.right ‹_›) | exact And.left (And.right (And.right ‹_›)) | exact And.left (And.right (And.right (And.right ‹_›))) | exact And.left (And.right (And.right (And.right (And.right ‹_›)))) | exact And.left (And.right (And.right (And.right (And.right (And.right ‹_›))))) | exact And.left (And.right (And.right (And.right (And.right (And.right (And.right ‹_›)))))) | exact And.left (And.right (And.right (And.right (And.right (And.right (And.right (And.right ‹_›))))))) | exact And.left (And.right (And.right (And.right (And.right (And.right (And.right (And.right (And.right ‹_›)))))))) | exact And.left (And.right (And.right (And.right (And.right (And.right (And.right (And.right (And.right (And.right ‹_›))))))))) | exact And.left (And.right (And.right (And.right (And.right (And.right (And.right (And.right (And.right (And.right (And.right ‹_›)))))))))) | exact And.left (And.right (And.right (And.right (And.right (And.right (And.right (And.right (And.right (And.right (And.right (And.right ‹_›))))))))))) | exact And.left (And.right (And.right (And.right (And.right (And.right (And.right (And.right (And.right (And.right (And.right (And.right (And.right ‹_›)))))))))))) | exact And.left (And.right (And.right (And.right (And.right (And.right (And.right (And.right (And.right (And.right (And.right (And.right (And.right (And.right ‹_›))))))))))))) | exact And.left (And.right (And.right (And.right (And.right (And.right (And.right (And.right (And.right (And.right (And.right (And.right (And.right (And.right (And.right ‹_›)))))))))))))) | exact And.left (And.right (And.right (And.right (And.right (And.right (And.right (And.right (And.right (And.right (And.right (And.right (And.right (And.right (And.right (And.right ‹_›))))))))))))))) | exact And.left (And.right (And.right (And.right (And.right (And.right (And.right (And.right (And.right (And.right (And.right (And.right (And.right (And.right (And.right (And.right (And.right ‹_›)))))))))))))))) | exact And.right ‹_› | exact And.right (And.right ‹_›) | exact And.right (And.right (And.right ‹_›)) | exact And.right (And.right (And.right (And.right ‹_›))) | exact And.right (And.right (And.right (And.right (And.right ‹_›)))))) | fail))
  (k_with "omC" => (first | decide | fail))
  (k_with "omU" => (first | (k_extra "omC") | (with_reducible (first | exact o_le ‹_› (by decide) | exact o_lel ‹_› (by decide) | exact o_mul ‹_› (by decide) (by decide) | exact o_mull ‹_› (by decide) (by decide))) | ((with_reducible refine o_chl ‹_› ?_); k_extra "omU") | ((with_reducible refine o_addc ?_); k_extra "omU") | ((with_reducible refine o_subc ?_); k_extra "omU") | ((with_reducible refine o_subv ‹_› ?_); k_extra "omU") | ((with_reducible refine o_add2 ‹_› ?_); k_extra "omU") | ((with_reducible refine o_add2l ‹_› ?_); k_extra "omU") | ((with_reducible refine o_addl ?_); k_extra "omU") | ((with_reducible refine o_addm ‹_› (by decide) ?_); k_extra "omU") | fail))
  (k_with "omL" => (first | (k_extra "omC") | (with_reducible (first | exact o_ge ‹_› (by decide) | exact o_gel ‹_› (by decide) | exact o_gmul ‹_› (by decide) (by decide))) | ((with_reducible refine o_gaddc ?_); k_extra "omL") | ((with_reducible refine o_gsubc ?_); k_extra "omL") | ((with_reducible refine o_gsubv ‹_› ?_); k_extra "omL") | ((with_reducible refine o_gsubvl ‹_› ?_); k_extra "omL") | ((with_reducible refine o_gadd2 ‹_› ?_); k_extra "omL") | ((with_reducible refine o_gaddl ?_); k_extra "omL") | ((with_reducible refine o_gaddm ‹_› (by decide) ?_); k_extra "omL") | fail))
  (k_with "omR" => (first | (with_reducible (first | exact o_self (by decide))) | ((with_reducible refine o_ch ‹_› ?_); k_extra "omR") | ((with_reducible refine o_addch ?_); k_extra "omR") | fail))
  (k_with "omZ" => (first | (k_extra "omR") | (k_extra "omU") | (k_extra "omL") | fail))
  (k_with "omX" => (first | decide | (k_extra "omZ") | (with_reducible (first | exact Int.le_refl _ | exact Nat.le_refl _ | exact o_nle ‹_› (by decide) | exact o_nlt ‹_› (by decide) | exact o_nlel ‹_› (by decide))) | ((with_reducible refine o_ltc ?_); k_extra "omZ") | ((with_reducible refine o_gtc ?_); k_extra "omZ") | (with_reducible (first | exact o_iffn ‹_› ‹_› | exact o_neql ‹_› (by decide) | exact o_neqi ‹_› (by decide))) | ((with_reducible show _ < _); (first | (with_reducible exact Iff.mp ‹_› ‹_›) | k_extra "omA")) | ((repeat (rename _ ≠ _ => hz; clear hz)); (repeat (rename _ ≠ _ ∧ _ => hz; clear hz)); omega +splitDisjunctions) | fail))
  (k_with "omN" => (first | (with_reducible (first | exact o_n1 | exact o_n1' | exact o_ne ‹_› | exact o_ne' ‹_› | exact o_lt ‹_› | exact o_gt ‹_› | exact o_ne (by k_extra "omA") | exact o_ne' (by k_extra "omA") | exact o_lt (by k_extra "omA") | exact o_gt (by k_extra "omA") | exact o_lts1 (by k_extra "omA") | exact o_lts1' (by k_extra "omA") | exact o_lts2 (by k_extra "omA") | exact o_lts2' (by k_extra "omA") | exact o_gt2 ‹_› (by k_extra "omA") | exact o_lt2 ‹_› (by k_extra "omA"))) | fail))
  (k_with "om" => (first | with_reducible assumption | ((first | (with_reducible show _ ≤ _) | (with_reducible show _ < _)); k_extra "omX") | ((with_reducible show _ = _ → False); k_extra "omN") | fail))
  trivial
open PySem PySem.W PyProof.Rows PySem.Calls
theorem reg_make : PySem.Challenge.rw_nn0125_01 = PySem.Challenge.rw_nn0125_01 ∧ KX = KX := by k_fill; exact ⟨rfl, rfl⟩
abbrev MadePost (C x dx : Addr) (PP : Obj → Led → Prop) (nw : Led) (r : Value) : Prop := ∃ o rest, nw = (x, instObj C dx) :: (dx, o) :: rest ∧ r = .none ∧ PP o rest
section
variable {w : World} {p : Program} {loose : List Str} {mean : ExcName → Option Value} {mg mb : Str → Option Value} {base : Heap} {outer : List Env} {s : Shared} {A A₀ : Around} {h₀ : Heap} {L : Addr} {m : Str → Option Value} {env : Env} {news : Led} {Q : Value → Shared → Prop} {E : Value → Shared → Prop} {g : Obj → Led}
theorem use_made {C fI : Addr} {vs : List Value} {PP : Addr → Addr → Obj → Led → Prop} (W : Wd w p loose mean mg mb base) (B : Below A₀ base outer h₀) (F : Fr h₀ L s.heap m) (X₀ : (KX w.params).In h₀) (N : News h₀ L s.heap news) (hk : EnvAt env L)
    (a1 : At A (env :: outer) 599 4999) (hm : makesIn (KX w.params) C = true) (hi : findIn (KX w.params) (.ref C) "__init__" = some (some (.ref fI))) (hf : isFn (KX w.params) (.ref fI) = true)
    (init : ∀ (s : Shared) gd x dx, Cx w p loose mean mg mb base (env :: outer) s.heap → LedOk base (env :: outer) s.heap [(x, instObj C dx), (dx, dictOf [] 0)] → x ≠ dx →
      codeAny (model PW w) (kA 600 5000 gd (env :: outer)) (.call (.ref fI) ⟨.ref x :: vs, []⟩) (RetOk (Ok s [x, dx] (MadePost C x dx (PP x dx)))) s)
    (k : ∀ x dx o rest h' tk, Fr h₀ L h' m → News h₀ L h' ((x, instObj C dx) :: (dx, o) :: (rest ++ news)) → (∀ q ∈ news, q.1 < dx) → dx < x → (∀ q ∈ rest, (∀ y ∈ news, y.1 ≠ q.1)) → PP x dx o rest → Q (.ref x) { s with heap := h', toks := tk }) :
    wpAny (model PW w) A (call (.ref C) vs) Q E s := by
  refine call_cls F X₀ N hm hi hf fun x dx h' F' N' l1 l2 => ?_
  have n1 : x ≠ dx := Nat.ne_of_gt l2
  have c := code_le (A := A.under (.builtin "type.__call__" ⟨.ref C :: vs, []⟩)) (init { s with heap := h' } _ x dx (cx_of W B F' hk) (led_of hk B F' N' (fun q hq => by
    rcases List.mem_cons.mp hq with rfl | hq
    · exact .head _
    · rw [List.mem_singleton.mp hq]; exact .tail _ (.head _))) n1) a1.h (Nat.succ_le_succ a1.d) a1.f (Nat.succ_le_succ a1.u)
  refine codeAny_mono c fun r s' hr => ?_
  unfold RetOk at hr
  split at hr
  · rename_i v
    obtain ⟨h2, tk, nw, rfl, keep, nws, o, rest, rfl, rfl, hp⟩ := hr
    have z1 := N' _ (.head _)
    have z2 := N' (dx, dictOf [] 0) (.tail _ (.head _))
    obtain ⟨oL, es, ep, hL, hLd⟩ := F'.ns
    have nLm : L ∉ [x, dx] := by
      simp only [List.mem_cons, List.not_mem_nil, or_false, not_or]
      exact ⟨Ne.symm z1.2.1, Ne.symm z2.2.1⟩
    have kp : ∀ b o, h₀.get? b = some o → h2.get? b = some o := fun b o e => keep b o (F'.keep b o e) (by
      simp only [List.mem_cons, List.not_mem_nil, or_false, not_or]
      exact ⟨fun z => (by rw [z, z1.2.2] at e; cases e), fun z => (by rw [z, z2.2.2] at e; cases e)⟩)
    have kn : ∀ q ∈ news, h2.get? q.1 = some q.2 := fun q hq => keep _ _ (N' q (.tail _ (.tail _ hq))).1 (by
      have := l1 q hq
      simp only [List.mem_cons, List.not_mem_nil, or_false, not_or]
      exact ⟨Nat.ne_of_lt (Nat.lt_trans this l2), Nat.ne_of_lt this⟩)
    have hfresh : ∀ q ∈ rest, q.1 ≠ L ∧ h₀.get? q.1 = none ∧ ∀ y ∈ news, y.1 ≠ q.1 := fun q hq => by
      have e2 := (nws q (.tail _ (.tail _ hq))).2
      rcases e2 with e2 | e2
      · refine ⟨fun z => ?_, ?_, fun y hy z => ?_⟩
        · rw [z, hL] at e2; cases e2
        · cases e : h₀.get? q.1 with
          | none => rfl
          | some o => rw [F'.keep _ _ e] at e2; cases e2
        · rw [← z, (N' y (.tail _ (.tail _ hy))).1] at e2; cases e2
      · simp only [List.mem_cons, List.not_mem_nil, or_false] at e2
        refine ⟨?_, ?_, fun y hy z => ?_⟩
        · rcases e2 with e2 | e2 <;> rw [e2]
          · exact z1.2.1
          · exact z2.2.1
        · rcases e2 with e2 | e2 <;> rw [e2]
          · exact z1.2.2
          · exact z2.2.2
        · have := l1 y hy
          rcases e2 with e2 | e2
          · rw [z, e2] at this; exact absurd (Nat.lt_trans this l2) (Nat.lt_irrefl _)
          · rw [z, e2] at this; exact absurd this (Nat.lt_irrefl _)
    refine ⟨rfl, k x dx o rest h2 tk ⟨F'.ns.at' fun o e => keep _ o e nLm, kp, F'.above⟩ (fun q hq => ?_) l1 l2 (fun q hq => (hfresh q hq).2.2) hp⟩
    rcases List.mem_cons.mp hq with rfl | hq
    · exact ⟨(nws _ (.head _)).1, z1.2⟩
    · rcases List.mem_cons.mp hq with rfl | hq
      · exact ⟨(nws _ (.tail _ (.head _))).1, z2.2⟩
      · rcases List.mem_append.mp hq with hq | hq
        · exact ⟨(nws q (.tail _ (.tail _ hq))).1, (hfresh q hq).1, (hfresh q hq).2.1⟩
        · exact ⟨kn q hq, (N' q (.tail _ (.tail _ hq))).2⟩
  · exact hr.elim
end
theorem made_end {s : Shared} {g h' : Heap} {L C x dx : Addr} {m : Str → Option Value} {all rest : Led} {tk : Nat} {od o : Obj} {PP : Obj → Led → Prop} (G : Ground s [(x, instObj C dx), (dx, od)] g) (F : Fr g L h' m) (N : News g L h' all) (h1 : (x, instObj C dx) ∈ all) (h2 : (dx, o) ∈ all) (hr : ∀ q ∈ rest, q ∈ all) (hp : PP o rest) : Ok s [x, dx] (MadePost C x dx PP) .none { s with heap := h', toks := tk } :=
  led_end (nw := (x, instObj C dx) :: (dx, o) :: rest) G F N (List.forall_mem_cons.mpr ⟨h1, List.forall_mem_cons.mpr ⟨h2, hr⟩⟩) ⟨_, _, rfl, rfl, hp⟩
abbrev PagePP (w : World) (R fd : Addr) (o : Obj) (rest : Led) : Prop := rest = [] ∧ ∃ k1 k2, o = d2 w "reference" "fields" k1 k2 (.ref R) (.ref fd)
abbrev ShelfPP (w : World) (x dx : Addr) (o : Obj) (rest : Led) : Prop := ∃ k1 k2 T T2 oT oT2, rest = [(T, oT), (T2, oT2)] ∧ o = shD w k1 k2 T T2 ∧ oT.IsDictOf (intKind PW w) [] ∧ (T == sysModules) = false ∧ @Ne Nat x T ∧ @Ne Nat dx T
section
variable {w : World} {p : Program} {loose : List Str} {mean : ExcName → Option Value} {mg mb : Str → Option Value} {base : Heap} {outer : List Env} {s : Shared} {gd : Option (List Code)}
theorem rg_Make72 : True := by
  (k_with "exec For Name Call cons nil" => ((k_here; (rename Fr _ _ _ _ => lF'); (with_unfolding_all refine' For_invVF lF' ?k1z1 ?k2z1 ?_; (case k1z1 => exact rfl); (case k2z1 => exact rfl); k_whole))))
  (k_with "exec For Name Subscript cons nil" => ((k_here; (rename Fr _ _ _ _ => lF'); (with_unfolding_all refine' For_invVF lF' ?k1z2 ?k2z2 ?_; (case k1z2 => exact rfl); (case k2z2 => exact rfl); k_whole))))
  trivial
set_option maxRecDepth 100000
set_option maxHeartbeats 8000000
theorem page_init {x dx R fd : Addr} (Cc : Cx w p loose mean mg mb base outer s.heap) (hl : LedOk base outer s.heap [(x, instObj 424 dx), (dx, dictOf [] 0)]) (hne : x ≠ dx) :
    codeAny (model PW w) (kA 600 5000 gd outer) (.call (.ref 421) ⟨[.ref x, .ref R, .ref fd], []⟩) (RetOk (Ok s [x, dx] (MadePost 424 x dx (PagePP w R fd)))) s := by
  replace hne := neN hne
  k_dflt (refine' enter (led := [(x, instObj 424 dx), (dx, dictOf [] 0)]) Cc hl ?k6 ?k7 ?k8 ?k9 ?kB ?_ ?c2 ?c3 ?c4 ?c5; (case k6 => k_is); (case k7 => k_is); (case k8 => decide); (case k9 => exact BindsTo.of_eq rfl); (case c5 => decide); (case kB => exact locs rfl); (case c2 => exact rfl); (case c3 => exact rfl); (case c4 => exact rfl))
  intro g L' h' G hL' F' N' B' X' T'
  (try dsimp only); (try k_fold)
  repeat' (first | (k_end; exact made_end (rest := []) G (by assumption) (by assumption) (by k_mem) (by first | exact .head _ | exact .tail _ (.head _)) (fun _ hq => nomatch hq) ⟨rfl, _, _, rfl⟩) | (k_unfold; (try dsimp only)) | walk1 | (dsimp only; walk1) | fail "no step")
  all_goals w_report
theorem shelf_init {x dx : Addr} (Cc : Cx w p loose mean mg mb base outer s.heap) (hl : LedOk base outer s.heap [(x, instObj 405 dx), (dx, dictOf [] 0)]) (hne : x ≠ dx) :
    codeAny (model PW w) (kA 600 5000 gd outer) (.call (.ref 334) ⟨[.ref x], []⟩) (RetOk (Ok s [x, dx] (MadePost 405 x dx (ShelfPP w x dx)))) s := by
  replace hne := neN hne
  have X0 := Cc.W.X.keeps Cc.stays
  k_dflt (refine' enter (led := [(x, instObj 405 dx), (dx, dictOf [] 0)]) Cc hl ?k6 ?k7 ?k8 ?k9 ?kB ?_ ?c2 ?c3 ?c4 ?c5; (case k6 => k_is); (case k7 => k_is); (case k8 => decide); (case k9 => exact binds_K X0 rfl (by k_is) rfl rfl rfl); (case c5 => decide); (case kB => exact locs rfl); (case c2 => exact rfl); (case c3 => exact rfl); (case c4 => exact rfl))
  intro g L' h' G hL' F' N' B' X' T'
  (try dsimp only); (try k_fold)
  repeat' (first | (k_end; exact made_end (rest := [(_, _), (_, _)]) G (by assumption) (by assumption) (by k_mem) (o := shD w _ _ _ _) (by k_mem) (by simp only [List.forall_mem_cons]; exact ⟨by k_mem, by k_mem, fun _ hq => nomatch hq⟩) ⟨_, _, _, _, _, _, rfl, rfl, by assumption, by assumption, by omega, by omega⟩) | (k_unfold; (try dsimp only)) | walk1 | (dsimp only; walk1) | fail "no step")
  all_goals w_report
end
section
variable {w : World} {p : Program} {loose : List Str} {mean : ExcName → Option Value} {mg mb : Str → Option Value} {base : Heap} {outer : List Env} {s : Shared} {A A₀ : Around} {h₀ : Heap} {L : Addr} {m : Str → Option Value} {env : Env} {news : Led} {Q : Value → Shared → Prop} {E : Value → Shared → Prop} {g : Obj → Led}
theorem use_page {R fd : Addr} (W : Wd w p loose mean mg mb base) (B : Below A₀ base outer h₀) (F : Fr h₀ L s.heap m) (X₀ : (KX w.params).In h₀) (N : News h₀ L s.heap news) (hk : EnvAt env L) (a1 : At A (env :: outer) 599 4999)
    (k : ∀ x dx k1 k2 h' tk, Fr h₀ L h' m → News h₀ L h' ((x, instObj 424 dx) :: (dx, d2 w "reference" "fields" k1 k2 (.ref R) (.ref fd)) :: news) → (∀ q ∈ news, q.1 < dx) → dx < x → Q (.ref x) { s with heap := h', toks := tk }) : wpAny (model PW w) A (call (.ref 424) [.ref R, .ref fd]) Q E s :=
  use_made (PP := fun _ _ => PagePP w R fd) W B F X₀ N hk a1 (by k_is) (by k_is) (by k_is) (fun _ _ _ _ C l n => page_init C l n) fun x dx o rest h' tk F' N' l1 l2 _ hp => by
    obtain ⟨rfl, k1, k2, rfl⟩ := hp
    exact k x dx k1 k2 h' tk F' N' l1 l2
theorem use_shelf (W : Wd w p loose mean mg mb base) (B : Below A₀ base outer h₀) (F : Fr h₀ L s.heap m) (X₀ : (KX w.params).In h₀) (N : News h₀ L s.heap news) (hk : EnvAt env L) (a1 : At A (env :: outer) 599 4999)
    (k : ∀ x dx k1 k2 T T2 oT h' tk, Fr h₀ L h' m → News h₀ L h' ((x, instObj 405 dx) :: (dx, shD w k1 k2 T T2) :: (T, oT) :: news) → (∀ q ∈ news, @Ne Nat q.1 x ∧ @Ne Nat q.1 dx ∧ @Ne Nat q.1 T) → @Ne Nat x dx → @Ne Nat x T → @Ne Nat dx T → oT.IsDictOf (intKind PW w) [] → (T == sysModules) = false → Q (.ref x) { s with heap := h', toks := tk }) : wpAny (model PW w) A (call (.ref 405) []) Q E s :=
  use_made (PP := ShelfPP w) W B F X₀ N hk a1 (by k_is) (by k_is) (by k_is) (fun _ _ _ _ C l n => shelf_init C l n) fun x dx o rest h' tk F' N' l1 l2 ho hp => by
    obtain ⟨k1, k2, T, T2, oT, oT2, rfl, rfl, hd, lo, n1, n2⟩ := hp
    refine k x dx k1 k2 T T2 oT h' tk F' (fun q hq => N' q ?_) (fun q hq => ⟨Nat.ne_of_lt (Nat.lt_trans (l1 q hq) l2), Nat.ne_of_lt (l1 q hq), ho _ (.head _) q hq⟩) (Nat.ne_of_gt l2) n1 n2 hd lo
    rcases List.mem_cons.mp hq with rfl | hq
    · exact .head _
    · rcases List.mem_cons.mp hq with rfl | hq
      · exact .tail _ (.head _)
      · rcases List.mem_cons.mp hq with rfl | hq
        · exact .tail _ (.tail _ (.head _))
        · exact .tail _ (.tail _ (.tail _ (.tail _ hq)))
end
end
section
theorem rg_Lam : True := by
  k_with_none
  (k_with "omA" => (first | (with_reducible (first | exact And.left ‹_› | exact And.left (And.right ‹_›) | exact And.left (And.right (And.right ‹_›)) | exact And.left (And.right (And.right (And.right ‹_›))) | exact And.left (And.right (And.right (And.right (And.right ‹_›)))) | exact And.left (And.right (And.right (And.right (And.right (And.right ‹_›))))) | exact And.left (And.right (And.right (And.right (And.right (And.right (And.right ‹_›)))))) | exact And.left (And.right (And.right (And.right (And.right (And.right (And.right (And.right ‹_›))))))) | exact And.left (And.right (And.right (And.right (And.right (And.right (And.right (And.right (And.right ‹_›)))))))) | exact And.left (And.right (And.right (And.right (And.right (And.right (And.right (And.right (And.right (And.right ‹_›))))))))) | exact And.left (And.right (And.right (And.right (And.right (And.right (And.right (And.right (And.right (And.right (And.right ‹_›)))))))))) | exact And.left (And.right (And.right (And.right (And.right (And.right (And.right (And.right (And.right (And.right (And.right (And.right ‹_›))))))))))) | exact And.left (And.right (And.right (And.right (And.right (And.right (And.right (And.right (And.right (And.right (And.right (And.right (And.right ‹_›)))))))))))) | exact And.left (And.right (And.right (And.right (And.right (And.right (And.right (And.right (And.right (And.right (And.right (And.right (And.right (And.right ‹_›))))))))))))) | exact And.left (And.right (And.right (And.right (And.right (And.right (And.right (And.right (And.right (And.right (And.right (And.right (And.right (And.right (And.right ‹_›)))))))))))))) | exact And.left (And.right (And.right (And.right (And.right (And.right (And.right (And.right (And.right (And.right (And.right (And.right (And.right (And.right (And.right (And.right ‹_›))))))))))))))) | exact And.left (And.right (And.right (And.right (And.right (And.right (And.right (And.right (And.right (And.right (And.right (And.right (And.right (And.right (And.right (And.right (And.right ‹_›)))))))))))))))) | exact And.right ‹_› | exact And.right (And.right ‹_›) | exact And.right (And.right (And.right ‹_›)) | exact And.right (And.right (And.right (And.right ‹_›))) | exact And.right (And.right (And.right (And.right (And.right ‹_›)))))) | fail))
  (k_with "omC" => (first | decide | fail))
  (k_with "omU" => (first | (k_extra "omC") | (with_reducible (first | exact o_le ‹_› (by decide) | exact o_lel ‹_› (by decide) | exact o_mul ‹_› (by decide) (by decide) | exact o_mull ‹_› (by decide) (by decide))) | ((with_reducible refine o_chl ‹_› ?_); k_extra "omU") | ((with_reducible refine o_addc ?_); k_extra "omU") | ((with_reducible refine o_subc ?_); k_extra "omU") | ((with_reducible refine o_subv ‹_› ?_); k_extra "omU") | ((with_reducible refine o_add2 ‹_› ?_); k_extra "omU") | ((with_reducible refine o_add2l ‹_› ?_); k_extra "omU") | ((with_reducible refine o_addl ?_); k_extra "omU") | ((with_reducible refine o_addm ‹_› (by decide) ?_); k_extra "omU") | fail))
  (k_with "omL" => (first | (k_extra "omC") | (with_reducible (first | exact o_ge ‹_› (by decide) | exact o_gel ‹_› (by decide) | exact o_gmul ‹_› (by decide) (by decide))) | ((with_reducible refine o_gaddc ?_); k_extra "omL") | ((with_reducible refine o_gsubc ?_); k_extra "omL") | ((with_reducible refine o_gsubv ‹_› ?_); k_extra "omL") | ((with_reducible refine o_gsubvl ‹_› ?_); k_extra "omL") | ((with_reducible refine o_gadd2 ‹_› ?_); k_extra "omL") | ((with_reducible refine o_gaddl ?_); k_extra "omL") | ((with_reducible refine o_gaddm ‹_› (by decide) ?_); k_extra "omL") | fail))
  (k_with "omR" => (first | (with_reducible (first | exact o_self (by decide))) | ((with_reducible refine o_ch ‹_› ?_); k_extra "omR") | ((with_reducible refine o_addch ?_); k_extra "omR") | fail))
  (k_with "omZ" => (first | (k_extra "omR") | (k_extra "omU") | (k_extra "omL") | fail))
  (k_with "omX" => (first | decide | (k_extra "omZ") | (with_reducible (first | exact Int.le_refl _ | exact Nat.le_refl _ | exact o_nle ‹_› (by decide) | exact o_nlt ‹_› (by decide) | exact o_nlel ‹_› (by decide))) | ((with_reducible refine o_ltc ?_); k_extra "omZ") | ((with_reducible refine o_gtc ?_); k_extra "omZ") | (with_reducible (first | exact o_iffn ‹_› ‹_› | exact o_neql ‹_› (by decide) | exact o_neqi ‹_› (by decide))) | ((with_reducible show _ < _); (first | (with_reducible exact Iff.mp ‹_› ‹_›) | k_extra "omA")) | ((repeat (rename _ ≠ _ => hz; clear hz)); (repeat (rename _ ≠ _ ∧ _ => hz; clear hz)); omega +splitDisjunctions) | fail))
  (k_with "omN" => (first | (with_reducible (first | exact o_n1 | exact o_n1' | exact o_ne ‹_› | exact o_ne' ‹_› | exact o_lt ‹_› | exact o_gt ‹_› | exact o_ne (by k_extra "omA") | exact o_ne' (by k_extra "omA") | exact o_lt (by k_extra "omA") | exact o_gt (by k_extra "omA") | exact o_lts1 (by k_extra "omA") | exact o_lts1' (by k_extra "omA") | exact o_lts2 (by k_extra "omA") | exact o_lts2' (by k_extra "omA") | exact o_gt2 ‹_› (by k_extra "omA") | exact o_lt2 ‹_› (by k_extra "omA"))) | fail))
  (k_with "om" => (first | with_reducible assumption | ((first | (with_reducible show _ ≤ _) | (with_reducible show _ < _)); k_extra "omX") | ((with_reducible show _ = _ → False); k_extra "omN") | fail))
  trivial
open PySem PySem.W PyProof.Rows PySem.Calls
theorem reg_lam : PySem.Challenge.rw_nn0125_01 = PySem.Challenge.rw_nn0125_01 ∧ KX = KX := by k_fill; exact ⟨rfl, rfl⟩
def hdIn (K : Frag) (c P : Addr) : Bool := match K.lookup c with
  | some ⟨.type t, _, .fields vs, _⟩ => t == "code" && (match (vs[11]? : Option Value) with | some (.ref q) => q == P | _ => false) && (match vs.getD 11 .none with | .ref q => q == P | _ => false) && (match vs.getD 18 .none with | .str _ _ => true | _ => false) &&
      (match vs.getD 7 .none with | .int _ _ => true | _ => false) && (match vs.getD 9 .none with | .bool _ => true | _ => false) && (match vs.getD 10 .none with | .int _ _ => true | _ => false) && c != P
  | _ => false
theorem codeHd_of {K : Frag} {h : Heap} {c P : Addr} (X : K.In h) (e : hdIn K c P = true) : CodeHd h c P := by
  unfold hdIn at e
  split at e
  · rename_i t od vs sl hl
    simp only [Bool.and_eq_true, bne_iff_ne, ne_eq] at e
    obtain ⟨⟨⟨⟨⟨⟨⟨e0, e1⟩, e2⟩, e3⟩, e4⟩, e5⟩, e6⟩, e7⟩ := e
    have f0 := eq_of_beq e0
    subst f0
    split at e1
    · rename_i q hq
      have f1 := eq_of_beq e1
      subst f1
      split at e2
      · rename_i q2 hq2
        have f2 := eq_of_beq e2
        subst f2
        split at e3
        · rename_i file tf h3
          split at e4
          · rename_i fl tg h4
            split at e5
            · rename_i inF h5
              split at e6
              · rename_i tx tt h6
                exact ⟨_, vs, file, tf, fl, tg, inF, tx, tt, X _ _ hl, rfl, rfl, hq, hq2, h3, h4, h5, h6, e7⟩
              · cases e6
            · cases e5
          · cases e4
        · cases e3
      · cases e2
    · cases e1
  · cases e
def TabSt (A : Led) (line col : Nat) (qual : Str) (ps : Array Value) : Prop :=
  ps = #[] ∨ ∃ c' oc vs t, ps = #[rawInt line, rawInt col, .ref c'] ∧ (c', oc) ∈ A ∧ oc.data = .fields vs ∧ vs[1]? = some (.str qual t)
theorem TabSt.mono {A B : Led} {line col : Nat} {qual : Str} {ps : Array Value} (h : TabSt A line col qual ps) (s : ∀ q ∈ A, q ∈ B) : TabSt B line col qual ps := by
  rcases h with h | ⟨c', oc, vs, t, h1, h2, h3, h4⟩
  · exact .inl h
  · exact .inr ⟨c', oc, vs, t, h1, s _ h2, h3, h4⟩
section
variable {M : Model} {A : Around} {E : Value → Shared → Prop} {s : Shared} {h₀ : Heap} {L a c P : Addr} {m mg mb : Str → Option Value} {cn : Str} {cs : Scope} {ccd : Value} {cl : List (Str × Addr)} {news : Led} {g : Obj → Led}
  {p : Program} {loose : List Str} {mean : ExcName → Option Value} {qual : Str} {params : Arguments} {body : Expr} {scope : Scope} {ps : Array Value} {pos : Pos} {clos : List (Str × Addr)}
theorem use_lam {Q : Value → Shared → Prop} (hdef : defaultsOf params (envX cn cs L a ccd cl) = ([], [])) (hq : (envX cn cs L a ccd cl).qual ++ "<lambda>" = qual) (F : Fr h₀ L s.heap m) (N : News h₀ L s.heap news) (T : Top p loose mean mg mb h₀) (C : CodeHd h₀ c P) (hcd : ccd = .ref c) (U : UpdF P (tabObj ps) news g)
    {Z : Led} (S : TabSt Z pos.line pos.col qual ps) (subZ : ∀ q ∈ Z, q ∈ news) (hcl : closureFor scope (envX cn cs L a ccd cl) = pure clos)
    (h : ∀ f c' oc vs t pmv ctv ps' h' tk, Fr h₀ L h' m → News h₀ L h' ((f, kla_obj "<lambda>" qual params body scope clos pmv c' ctv) :: (c', oc) :: g (tabObj ps')) →
      ps' = #[rawInt pos.line, rawInt pos.col, .ref c'] → oc.data = .fields vs → vs[1]? = some (.str qual t) → (∀ q ∈ news, q.1 < f) → ((c', oc) ∈ Z ∨ ∀ q ∈ news, q.1 < c') → Q (.ref f) { s with heap := h', toks := tk }) :
    wpAny M A (eval (.Lambda params body scope pos) (envX cn cs L a ccd cl)) Q E s := by
  refine kla_eval hdef ?_
  rw [hq]
  rcases S with rfl | ⟨c', oc, vs, t, rfl, hm, hd, hv⟩
  · refine kla_nest F N T C hcd U trivial rfl hcl fun f c' oc vs t ctv h' tk F' N' hd hv l1 l2 => ?_
    exact h f c' oc vs t _ ctv _ h' tk F' (by simpa using N') rfl hd hv (fun q hq => Nat.lt_trans (l1 q hq) l2) (.inr l1)
  · obtain ⟨own, rest, rfl, hgr, h1, h2⟩ := U.split
    have e : g (tabObj #[rawInt pos.line, rawInt pos.col, .ref c']) = own ++ (P, tabObj #[rawInt pos.line, rawInt pos.col, .ref c']) :: rest := hgr _
    have ht : TriplesOk (#[rawInt pos.line, rawInt pos.col, Value.ref c'] : Array Value).toList := True.intro
    have hf : codeAmong pos (#[rawInt pos.line, rawInt pos.col, Value.ref c'] : Array Value).toList = some (.ref c') := codeAmong_snoc [] True.intro rfl
    refine kla_hit F N T C hcd (List.mem_append_right _ (.head _)) ht hf hcl fun f ctv h' tk F' N' l1 => ?_
    refine h f c' oc vs t ((mg "__name__").getD .none) ctv #[rawInt pos.line, rawInt pos.col, .ref c'] h' tk F' (fun q hq => ?_) rfl hd hv l1 (.inl hm)
    rcases List.mem_cons.mp hq with rfl | hq
    · exact N' _ (.head _)
    · refine N' _ (.tail _ ?_)
      rcases List.mem_cons.mp hq with rfl | hq
      · exact subZ _ hm
      · rw [e] at hq; exact hq
end
section
variable {w : World} {p : Program} {loose : List Str} {mean : ExcName → Option Value} {mg mb : Str → Option Value} {base : Heap} {outer : List Env} {s : Shared} {led : Led}
theorem enterL {dp un : Nat} {gd : Option (List Code)} {R : Result → Shared → Prop} {name qual : Str} {params : Arguments} {body : Expr} {scope : Scope} {cl : List (Str × Addr)} {pm ctv : Value} {c' f : Addr} {oc : Obj} {vs : Array Value} {t : Tok} {args : Args} {binds : List (Str × Value)}
    (C : Cx w p loose mean mg mb base outer s.heap) (hl : LedOk base outer s.heap led)
    (ho : (f, kla_obj name qual params body scope cl pm c' ctv) ∈ led) (hc : (c', oc) ∈ led) (hcd : oc.data = .fields vs) (hcv : vs[1]? = some (.str qual t)) (hroom : dp < recursionLimit)
    (hbind : bindArgs (kla_fn name qual params body scope cl pm (.ref c') ctv) args = pure binds) (hloc : ∀ y ∈ binds, scope.names.lookup y.1 = some .local)
    (h : ∀ g L' h₁, Ground s led g → L' = s.heap.objs.size → Fr g L' h₁ (fun y => binds.reverse.lookup y) → News g L' h₁ led → Below (kA dp un gd outer) base outer g → (KX w.params).In g → Top p loose mean mg mb g →
      wpAny (model PW w) ((kA dp un gd outer).deeper (envX qual scope L' f (.ref c') cl)) (eval body (envX qual scope L' f (.ref c') cl)) (fun v s' => R (.ok (.ret v)) s')
        (fun e s' => wpAny (model PW w) ((kA dp un gd outer).deeper (envX qual scope L' f (.ref c') cl)) (leaving (envX qual scope L' f (.ref c') cl) e) (fun _ s'' => R (.error e) s'') (fun e' s'' => R (.error e') s'') s')
        { s with heap := h₁, toks := s.toks + binds.length })
    (hco : scope.isCoroutine = false) (hgen : scope.isGenerator = false) (hk : scope.kind = .function)
    (hcell : ∀ x ∈ scope.names, x.2 ≠ .cell) : codeAny (model PW w) (kA dp un gd outer) (.call (.ref f) args) R s := by
  have st : ∀ b o, base.get? b = some o → (hideAll s.heap (led.map fun q : Addr × Obj => q.1)).get? b = some o := fun b o e => hideAll_get _ (C.stays b o e) fun q => by
    obtain ⟨r, hr, e2⟩ := List.mem_map.mp q
    have := (hl r hr).2.1
    rw [e2, e] at this; cases this
  have hlim := C.W.T.nolimit
  refine kla_callFunE hroom (hl _ ho).1 rfl hco hgen rfl ⟨c', oc, vs, t, rfl, (hl _ hc).1, hcd, hcv⟩ ?_
  rw [hbind]
  refine wpAny_pure (wpAny_newFunctionEnv hcell hloc (fun h₁ hns hsb => ⟨(hlim.keeps C.stays).fresh _ hsb, ?_⟩) hk)
  show codeAny _ _ (.expr body (envX qual scope s.heap.objs.size f (.ref c') cl)) _ _
  have hk₁ : ∀ b o, s.heap.get? b = some o → h₁.get? b = some o := fun b o e => hsb.extBut b o (Nat.ne_of_lt (Heap.lt_size e)) (Heap.get?_push_of_some _ e)
  refine kla_codeExpr (h (hideAll s.heap (led.map fun q : Addr × Obj => q.1)) s.heap.objs.size h₁ ⟨fun b o e n => hideAll_get _ e n, fun b o e => ⟨of_hideAll _ e, fun q => by rw [hideAll_none _ q] at e; cases e⟩⟩ rfl ⟨hns, fun b o e => hk₁ b o (of_hideAll _ e), Nat.le_of_eq (hideAll_size _ _)⟩
    (fun q hq => ⟨hk₁ _ _ (hl q hq).1, Nat.ne_of_lt (Heap.lt_size (hl q hq).1), hideAll_none _ (List.mem_map_of_mem hq)⟩)
    ⟨rfl, st, funFrames_hideAll C.frames fun env he b hb hf => ?_⟩ (C.W.X.keeps st) (C.W.T.keeps st))
  obtain ⟨r, hr, rfl⟩ := List.mem_map.mp hb
  exact (hl r hr).2.2 env he hf
end
end
section
theorem rg_Rot : True := by
  k_with_none
  (k_with "omA" => (first | (with_reducible (first | exact And.left ‹_› | exact And.left (And.right ‹_›) | exact And.left (And.right (And.right ‹_›)) | exact And.left (And.right (And.right (And.right ‹_›))) | exact And.left (And.right (And.right (And.right (And.right ‹_›)))) | exact And.left (And.right (And.right (And.right (And.right (And.right ‹_›))))) | exact And.left (And.right (And.right (And.right (And.right (And.right (And.right ‹_›)))))) | exact And.left (And.right (And.right (And.right (And.right (And.right (And.right (And.right ‹_›))))))) | exact And.left (And.right (And.right (And.right (And.right (And.right (And.right (And.right (And.right ‹_›)))))))) | exact And.left (And.right (And.right (And.right (And.right (And.right (And.right (And.right (And.right (And.right ‹_›))))))))) | exact And.left (And.right (And.right (And.right (And.right (And.right (And.right (And.right (And.right (And.right (And.right ‹_›)))))))))) | exact And.left (And.right (And.right (And.right (And.right (And.right (And.right (And.right (And.right (And.right (And.right (And.right ‹_›))))))))))) | exact And.left (And.right (And.right (And.right (And.right (And.right (And.right (And.right (And.right (And.right (And.right (And.right (And.right ‹_›)))))))))))) | exact And.left (And.right (And.right (And.right (And.right (And.right (And.right (And.right (And.right (And.right (And.right (And.right (And.right (And.right ‹_›))))))))))))) | exact And.left (And.right (And.right (And.right (And.right (And.right (And.right (And.right (And.right (And.right (And.right (And.right (And.right (And.right (And.right ‹_›)))))))))))))) | exact And.left (And.right (And.right (And.right (And.right (And.right (And.right (And.right (And.right (And.right (And.right (And.right (And.right (And.right (And.right (And.right ‹_›))))))))))))))) | exact And.left (And.right (And.right (And.right (And.right (And.right (And.right (And.right (And.right (And.right (And.right (And.right (And.right (And.right (And.right (And.right (And.right ‹_›)))))))))))))))) | exact And.right ‹_› | exact And.right (And.right ‹_›) | exact And.right (And.right (And.right ‹_›)) | exact And.right (And.right (And.right (And.right ‹_›))) | exact And.right (And.right (And.right (And.right (And.right ‹_›)))))) | fail))
  (k_with "omC" => (first | decide | fail))
  (k_with "omU" => (first | (k_extra "omC") | (with_reducible (first | exact o_le ‹_› (by decide) | exact o_lel ‹_› (by decide) | exact o_mul ‹_› (by decide) (by decide) | exact o_mull ‹_› (by decide) (by decide))) | ((with_reducible refine o_chl ‹_› ?_); k_extra "omU") | ((with_reducible refine o_addc ?_); k_extra "omU") | ((with_reducible refine o_subc ?_); k_extra "omU") | ((with_reducible refine o_subv ‹_› ?_); k_extra "omU") | ((with_reducible refine o_add2 ‹_› ?_); k_extra "omU") | ((with_reducible refine o_add2l ‹_› ?_); k_extra "omU") | ((with_reducible refine o_addl ?_); k_extra "omU") | ((with_reducible refine o_addm ‹_› (by decide) ?_); k_extra "omU") | fail))
  (k_with "omL" => (first | (k_extra "omC") | (with_reducible (first | exact o_ge ‹_› (by decide) | exact o_gel ‹_› (by decide) | exact o_gmul ‹_› (by decide) (by decide))) | ((with_reducible refine o_gaddc ?_); k_extra "omL") | ((with_reducible refine o_gsubc ?_); k_extra "omL") | ((with_reducible refine o_gsubv ‹_› ?_); k_extra "omL") | ((with_reducible refine o_gsubvl ‹_› ?_); k_extra "omL") | ((with_reducible refine o_gadd2 ‹_› ?_); k_extra "omL") | ((with_reducible refine o_gaddl ?_); k_extra "omL") | ((with_reducible refine o_gaddm ‹_› (by decide) ?_); k_extra "omL") | fail))
  (k_with "omR" => (first | (with_reducible (first | exact o_self (by decide))) | ((with_reducible refine o_ch ‹_› ?_); k_extra "omR") | ((with_reducible refine o_addch ?_); k_extra "omR") | fail))
  (k_with "omZ" => (first | (k_extra "omR") | (k_extra "omU") | (k_extra "omL") | fail))
  (k_with "omX" => (first | decide | (k_extra "omZ") | (with_reducible (first | exact Int.le_refl _ | exact Nat.le_refl _ | exact o_nle ‹_› (by decide) | exact o_nlt ‹_› (by decide) | exact o_nlel ‹_› (by decide))) | ((with_reducible refine o_ltc ?_); k_extra "omZ") | ((with_reducible refine o_gtc ?_); k_extra "omZ") | (with_reducible (first | exact o_iffn ‹_› ‹_› | exact o_neql ‹_› (by decide) | exact o_neqi ‹_› (by decide))) | ((with_reducible show _ < _); (first | (with_reducible exact Iff.mp ‹_› ‹_›) | k_extra "omA")) | ((repeat (rename _ ≠ _ => hz; clear hz)); (repeat (rename _ ≠ _ ∧ _ => hz; clear hz)); omega +splitDisjunctions) | fail))
  (k_with "omN" => (first | (with_reducible (first | exact o_n1 | exact o_n1' | exact o_ne ‹_› | exact o_ne' ‹_› | exact o_lt ‹_› | exact o_gt ‹_› | exact o_ne (by k_extra "omA") | exact o_ne' (by k_extra "omA") | exact o_lt (by k_extra "omA") | exact o_gt (by k_extra "omA") | exact o_lts1 (by k_extra "omA") | exact o_lts1' (by k_extra "omA") | exact o_lts2 (by k_extra "omA") | exact o_lts2' (by k_extra "omA") | exact o_gt2 ‹_› (by k_extra "omA") | exact o_lt2 ‹_› (by k_extra "omA"))) | fail))
  (k_with "om" => (first | with_reducible assumption | ((first | (with_reducible show _ ≤ _) | (with_reducible show _ < _)); k_extra "omX") | ((with_reducible show _ = _ → False); k_extra "omN") | fail))
  trivial
open PySem PySem.W PyProof.Rows PySem.Calls PyProof.Rows.LCg
theorem reg_rot : PySem.Challenge.rw_nn0125_01 = PySem.Challenge.rw_nn0125_01 ∧ KX = KX := by k_fill; exact ⟨rfl, rfl⟩
def turnQ (n : Int) : Option Int := if n % 90 = 0 then some (n % 360) else none
def TurnV (A : Led) (v : Value) (due : Option Int) : Prop :=
  (∃ n k, v = .int n k ∧ -1000 ≤ n ∧ n ≤ 1000 ∧ due = turnQ n) ∨ (∃ b, v = .bool b ∧ due = none) ∨ (∃ a da o, v = .ref a ∧ (a, instObj 155 da) ∈ A ∧ (da, o) ∈ A ∧ due = none) ∨ (∃ a da o, v = .ref a ∧ (a, instObj 218 da) ∈ A ∧ (da, o) ∈ A ∧ due = none)
def RotV (w : World) (A : Led) (kvs : List (Int × Value)) (cv : Option Value) (due : Option Int) : Prop :=
  (cv = none ∧ due = some 0) ∨ (∃ v, cv = some v ∧ RefV w A v 900 ∧ due = some 0) ∨ (∃ v, cv = some v ∧ TurnV A v due) ∨
    ∃ v i t k0 nn v', cv = some v ∧ RefV w A v i ∧ valueAt kvs i = some (.ref t) ∧ (t, tupO #[.int 0 k0, v'] nn) ∈ A ∧ TurnV A v' due
section
variable {w : World} {p : Program} {loose : List Str} {mean : ExcName → Option Value} {mg mb : Str → Option Value} {base : Heap} {outer : List Env} {s : Shared} {A A₀ : Around} {h₀ : Heap} {L : Addr} {m : Str → Option Value} {env : Env} {Q : Value → Shared → Prop} {E : Value → Shared → Prop} {news Z : Led}
theorem isino_turn {h : Heap} {A : Led} {v : Value} {due : Option Int} (x : TurnV A v due) (s : ∀ q ∈ A, h.get? q.1 = some q.2) : IsiNo w h v 289 := by
  rcases x with ⟨n, k, rfl, _⟩ | ⟨b, rfl, _⟩ | ⟨a, da, o, rfl, m1, m2, _⟩ | ⟨a, da, o, rfl, m1, m2, _⟩
  · exact isino_int
  · exact isino_bool
  · exact isino_dec (s _ m1) (s _ m2)
  · exact isino_name (s _ m1) (s _ m2)
theorem use_rot {S dS T T2 : Addr} {k3 k4 : Tok} {oT : Obj} {kvs : List (Int × Value)} {n : Int} {cv : Option Value} {due : Option Int} (W : Wd w p loose mean mg mb base) (B : Below A₀ base outer h₀) (F : Fr h₀ L s.heap m) (N : News h₀ L s.heap news) (hk : EnvAt env L) (a1 : At A (env :: outer) 600 5000)
    (mS : (S, instObj 405 dS) ∈ news) (mdS : (dS, shD w k3 k4 T T2) ∈ news) (mT : (T, oT) ∈ news) (hd : oT.IsDictOf (intKind PW w) kvs) (lo : (T == sysModules) = false) (hTb : Tb kvs n) (hn : n ≤ 899)
    (hc : RotV w Z kvs cv due) (sub : ∀ q ∈ Z, q ∈ news)
    (k : ∀ r h' tk, Fr h₀ L h' m → News h₀ L h' news → ((r = .none ∧ due = some 0) ∨ TurnV Z r due) → Q r { s with heap := h', toks := tk }) : wpAny (model PW w) A (call (.ref 341) [.ref S, cv.getD .none]) Q E s := by
  have hs : ∀ q ∈ Z, s.heap.get? q.1 = some q.2 := fun q hq => (N q (sub q hq)).1
  rcases hc with ⟨rfl, rfl⟩ | ⟨v, rfl, ⟨a, da, k1, k2, k5, k6, rfl, m1, m2⟩, rfl⟩ | ⟨v, rfl, hv⟩ | ⟨v, i, t, k0, nn, v', rfl, h1, h2, h3, h4⟩
  · exact use_same (call_le (fetch_val (gd := A.guards) (Nat.le_refl _) (Nat.le_refl _) (cx_of W B F hk) isino_none) a1.h a1.d a1.f a1.u) F N fun h' tk F' N' => k _ h' tk F' N' (.inl ⟨rfl, rfl⟩)
  · exact use_same (call_le (fetch_none (gd := A.guards) (Nat.le_refl _) (Nat.le_refl _) (cx_of W B F hk) (N _ mS).1 (N _ mdS).1 (N _ mT).1 (hs _ m1) (hs _ m2) hd lo (hTb.none (by omega))) a1.h a1.d a1.f a1.u) F N fun h' tk F' N' => k _ h' tk F' N' (.inl ⟨rfl, rfl⟩)
  · exact use_same (call_le (fetch_val (gd := A.guards) (Nat.le_refl _) (Nat.le_refl _) (cx_of W B F hk) (isino_turn hv hs)) a1.h a1.d a1.f a1.u) F N fun h' tk F' N' => k _ h' tk F' N' (.inr hv)
  · exact use_fetch W B F N hk a1 mS mdS mT hd lo h1 sub h2 h3 (isino_turn h4 hs) fun h' tk F' N' => k _ h' tk F' N' (.inr h4)
theorem isi_dec_int {a da : Addr} {o : Obj} (X : (KX w.params).In s.heap) (N : News h₀ L s.heap news) (m : (a, instObj 155 da) ∈ news) (m2 : (da, o) ∈ news) (hQ : ∀ tk, Q (.bool false) { s with toks := tk }) :
    wpAny (model PW w) A (call (.builtin "isinstance") [.ref a, .type "int"]) Q E s := by
  k_dflt (refine' kia_one (kitx_own ?k4 ?k5 ?k6 ?k7 ?k8 ?k9) X (inst_here (N _ m).1 (N _ m2).1) ?ee ?nb ?_; (case ee => kit_is); (case nb => kit_nb); (case k4 => k_is); (case k5 => k_is); (case k6 => k_is); (case k7 => k_is); (case k8 => k_is); (case k9 => k_is); exact hQ)
theorem isi_name_int {a da : Addr} {o : Obj} (X : (KX w.params).In s.heap) (N : News h₀ L s.heap news) (m : (a, instObj 218 da) ∈ news) (m2 : (da, o) ∈ news) (hQ : ∀ tk, Q (.bool false) { s with toks := tk }) :
    wpAny (model PW w) A (call (.builtin "isinstance") [.ref a, .type "int"]) Q E s := by
  k_dflt (refine' kia_one (kitx_own ?k4 ?k5 ?k6 ?k7 ?k8 ?k9) X (inst_here (N _ m).1 (N _ m2).1) ?ee ?nb ?_; (case ee => kit_is); (case nb => kit_nb); (case k4 => k_is); (case k5 => k_is); (case k6 => k_is); (case k7 => k_is); (case k8 => k_is); (case k9 => k_is); exact hQ)
end
theorem turn_some {n : Int} (h : n % 90 = 0) : turnQ n = some (n % 360) := if_pos h
theorem turn_fmod {n : Int} (h : n.fmod 90 = 0) : turnQ n = some (n.fmod 360) := by
  rw [Int.fmod_eq_emod_of_nonneg _ (by omega)] at h ⊢
  exact turn_some h
theorem turn_none {n : Int} (h : n % 90 ≠ 0) : turnQ n = none := if_neg h
section
variable {w : World} {p : Program} {loose : List Str} {mean : ExcName → Option Value} {mg mb : Str → Option Value} {base : Heap} {outer : List Env} {s : Shared} {dp un : Nat} {gd : Option (List Code)}
theorem rg_Rot42 : True := by
  (k_with "exec For Name Call cons nil" => ((k_here; (rename Fr _ _ _ _ => lF'); (with_unfolding_all refine' For_invVF lF' ?k1z1 ?k2z1 ?_; (case k1z1 => exact rfl); (case k2z1 => exact rfl); k_whole))))
  (k_with "exec For Name Subscript cons nil" => ((k_here; (rename Fr _ _ _ _ => lF'); (with_unfolding_all refine' For_invVF lF' ?k1z2 ?k2z2 ?_; (case k1z2 => exact rfl); (case k2z2 => exact rfl); k_whole))))
  (k_with "k_ne" => (((try dsimp only); first | with_reducible assumption | with_reducible exact Ne.symm (by with_reducible assumption) | (refine neN ?_; omega))))
  (k_with "k_all" => (with_reducible assumption))
  (k_with "k_mem" => (((repeat (first | exact List.mem_cons_self | refine List.mem_cons_of_mem _ ?_)); (try (with_reducible_and_instances assumption)); done)))
  (k_with "getMethod ref" => ((k_here; (with_reducible show wpAny _ _ (getMethod (Value.ref _) (PySem.Str.ofString "get") _) _ _ _); k_dflt (refine' led_method ?Nz6 ?mz6 ?dz6 ?_; (case Nz6 => k_asm); (case mz6 => k_mem); (case dz6 => assumption)))))
  (k_with "call builtin:dict.get" => ((k_here; k_dflt (refine' led_get ?Nz7 ?mz7 ?dz7 ?loz7 ?lz7 ?_; (case Nz7 => k_asm); (case mz7 => k_mem); (case dz7 => assumption); (case loz7 => assumption); (case lz7 => assumption)))))
  (k_with "exec Raise some none" => ((k_here; k_dflt (refine Raise_fault rfl ?_))))
  (k_with "call ref" => ((k_here; (with_reducible show wpAny _ _ (call (Value.ref 59) _) _ _ _); k_dflt (refine' use_fault ?Xz9 ?a1z9 ?_; (case Xz9 => k_in); (case a1z9 => exact ⟨rfl, le_of_ble rfl, rfl, le_of_ble rfl⟩)); intro _ _ _ _)))
  (k_with "call builtin:isinstance" => ((k_here; (with_reducible show wpAny _ _ (call _ [Value.ref _, Value.type _]) _ _ _); k_dflt (first | (refine' isi_dec_int ?Xz10 ?Nz10 ?mz10 ?m2z10 ?_; (case Xz10 => k_in); (case Nz10 => k_asm); (case mz10 => k_mem); (case m2z10 => k_mem); k_whole; intro _) | (refine' isi_name_int ?Xz10 ?Nz10 ?mz10 ?m2z10 ?_; (case Xz10 => k_in); (case Nz10 => k_asm); (case mz10 => k_mem); (case m2z10 => k_mem); k_whole; intro _)))))
  trivial
set_option maxRecDepth 100000
set_option maxHeartbeats 8000000
theorem rot_ok {S dS T T2 pg dpg fd R : Addr} {n : Int} {k3 k4 k5 k6 : Tok} {oT ofd : Obj} {kvs : List (Int × Value)} {fkvs : List (Str × Value)} {Z : Led} {cv : Option Value} {due : Option Int} (Cc : Cx w p loose mean mg mb base outer s.heap)
    (hl : LedOk base outer s.heap ((S, instObj 405 dS) :: (dS, shD w k3 k4 T T2) :: (T, oT) :: (pg, instObj 424 dpg) :: (dpg, d2 w "reference" "fields" k5 k6 (.ref R) (.ref fd)) :: (fd, ofd) :: Z)) (hd : oT.IsDictOf (intKind PW w) kvs) (lo : (T == sysModules) = false) (hTb : Tb kvs n) (hn : n ≤ 899)
    (hfd : ofd.IsDictOf (strKind PW w) fkvs) (lo2 : (fd == sysModules) = false) (hcv : valueAt fkvs ("Rotate" : Str) = cv) (hc : RotV w Z kvs cv due) :
    wpAny (model PW w) (kA 540 4700 gd outer) (call (.ref 445) [.ref S, .ref pg]) (fun r s' => ∃ q, due = some q ∧ Ok s [] (fun nw r => nw = [] ∧ ∃ k, r = .int q k) r s') (fun e s' => due = none ∧ Fail base outer s e s') s := by
  refine wpAny_call ?_
  have W' := Cc.W
  k_dflt (refine' enter (binds := [(("shelf" : Str), .ref S), (("page" : Str), .ref pg)]) (led := (S, instObj 405 dS) :: (dS, shD w k3 k4 T T2) :: (T, oT) :: (pg, instObj 424 dpg) :: (dpg, d2 w "reference" "fields" k5 k6 (.ref R) (.ref fd)) :: (fd, ofd) :: Z) Cc hl ?k6 ?k7 ?k8 ?k9 ?kB ?_ ?c2 ?c3 ?c4 ?c5; (case k6 => k_is); (case k7 => k_is); (case k8 => decide); (case k9 => exact BindsTo.of_eq rfl); (case c5 => decide); (case kB => exact locs rfl); (case c2 => exact rfl); (case c3 => exact rfl); (case c4 => exact rfl))
  intro g L' h' G hL' F' N' B' X' T'
  (try dsimp only); (try k_fold)
  repeat' ((fail_if_success (with_reducible show wpAny _ _ (call (Value.ref 341) _) _ _ _)); first | (k_unfold; (try dsimp only)) | walk1 | (dsimp only; walk1) | fail "no step")
  refine use_rot (by assumption) (by assumption) (by assumption) (by assumption) ⟨rfl, rfl⟩ ⟨rfl, le_of_ble rfl, rfl, le_of_ble rfl⟩ (by k_mem) (by k_mem) (by k_mem) hd lo hTb hn hc (fun q hq => by repeat (first | exact hq | refine List.mem_cons_of_mem _ ?_)) ?_
  intro r' h' tk' F' N' hr'
  rcases hr' with ⟨rfl, rfl⟩ | ⟨nt, kt, rfl, b1, b2, rfl⟩ | ⟨b, rfl, rfl⟩ | ⟨a, da, o, rfl, m1, m2, rfl⟩ | ⟨a, da, o, rfl, m1, m2, rfl⟩
  all_goals repeat' ((fail_if_success (with_reducible show ∃ _ _ _, _ = Value.ref _ ∧ _)); (fail_if_success (k_end; (try dsimp only); (with_reducible show ∃ _, _ = some _ ∧ Ok _ _ _ _ _))); first | (k_unfold; (try dsimp only)) | walk1 | (dsimp only; walk1) | fail "no step")
  all_goals (try dsimp only)
  all_goals first | ((with_reducible show ∃ _ _ _, _ = Value.ref _ ∧ _); exact raise_end W' G hl (by assumption) (by assumption) (by assumption) (by simp only [List.forall_mem_cons]; exact ⟨by k_mem, by k_mem, by k_mem, by k_mem, by k_mem, by k_mem, fun q hq => by repeat (first | exact hq | refine List.mem_cons_of_mem _ ?_)⟩) ⟨rfl, rfl⟩ (by assumption) (by assumption) (by first | rfl | exact turn_none (by rw [← Int.fmod_eq_emod_of_nonneg _ (by omega)]; assumption))) | (refine ⟨_, ?_, still_end (nw := []) G hl (by assumption) (by assumption) (by simp only [List.forall_mem_cons]; exact ⟨by k_mem, by k_mem, by k_mem, by k_mem, by k_mem, by k_mem, fun q hq => by repeat (first | exact hq | refine List.mem_cons_of_mem _ ?_)⟩) (fun _ hq => nomatch hq) ⟨rfl, _, rfl⟩⟩; first | rfl | exact turn_fmod (by assumption))
  all_goals w_report
end
end
section
theorem rg_Empty : True := by
  k_with_none
  (k_with "omA" => (first | (with_reducible (first | exact And.left ‹_› | exact And.left (And.right ‹_›) | exact And.left (And.right (And.right ‹_›)) | exact And.left (And.right (And.right (And.right ‹_›))) | exact And.left (And.right (And.right (And.right (And.right ‹_›)))) | exact And.left (And.right (And.right (And.right (And.right (And.right ‹_›))))) | exact And.left (And.right (And.right (And.right (And.right (And.right (And.right ‹_›)))))) | exact And.left (And.right (And.right (And.right (And.right (And.right (And.right (And.right ‹_›))))))) | exact And.left (And.right (And.right (And.right (And.right (And.right (And.right (And.right (And.right ‹_›)))))))) | exact And.left (And.right (And.right (And.right (And.right (And.right (And.right (And.right (And.right (And.right ‹_›))))))))) | exact And.left (And.right (And.right (And.right (And.right (And.right (And.right (And.right (And.right (And.right (And.right ‹_›)))))))))) | exact And.left (And.right (And.right (And.right (And.right (And.right (And.right (And.right (And.right (And.right (And.right (And.right ‹_›))))))))))) | exact And.left (And.right (And.right (And.right (And.right (And.right (And.right (And.right (And.right (And.right (And.right (And.right (And.right ‹_›)))))))))))) | exact And.left (And.right (And.right (And.right (And.right (And.right (And.right (And.right (And.right (And.right (And.right (And.right (And.right (And.right ‹_›))))))))))))) | exact And.left (And.right (And.right (And.right (And.right (And.right (And.right (And.right (And.right (And.right (And.right (And.right (And.right (And.right (And.right ‹_›)))))))))))))) | exact And.left (And.right (And.right (And.right (And.right (And.right (And.right (And.right (And.right (And.right (And.right (And.right (And.right (And.right (And.right (And.right ‹_›))))))))))))))) | exact And.left (And.right (And.right (And.right (And.right (And.right (And.right (And.right (And.right (And.right (And.right (And.right (And.right (And.right (And.right (And.right (And.right ‹_›)))))))))))))))) | exact And.right ‹_› | exact And.right (And.right ‹_›) | exact And.right (And.right (And.right ‹_›)) | exact And.right (And.right (And.right (And.right ‹_›))) | exact And.right (And.right (And.right (And.right (And.right ‹_›)))))) | fail))
  (k_with "omC" => (first | decide | fail))
  (k_with "omU" => (first | (k_extra "omC") | (with_reducible (first | exact o_le ‹_› (by decide) | exact o_lel ‹_› (by decide) | exact o_mul ‹_› (by decide) (by decide) | exact o_mull ‹_› (by decide) (by decide))) | ((with_reducible refine o_chl ‹_› ?_); k_extra "omU") | ((with_reducible refine o_addc ?_); k_extra "omU") | ((with_reducible refine o_subc ?_); k_extra "omU") | ((with_reducible refine o_subv ‹_› ?_); k_extra "omU") | ((with_reducible refine o_add2 ‹_› ?_); k_extra "omU") | ((with_reducible refine o_add2l ‹_› ?_); k_extra "omU") | ((with_reducible refine o_addl ?_); k_extra "omU") | ((with_reducible refine o_addm ‹_› (by decide) ?_); k_extra "omU") | fail))
  (k_with "omL" => (first | (k_extra "omC") | (with_reducible (first | exact o_ge ‹_› (by decide) | exact o_gel ‹_› (by decide) | exact o_gmul ‹_› (by decide) (by decide))) | ((with_reducible refine o_gaddc ?_); k_extra "omL") | ((with_reducible refine o_gsubc ?_); k_extra "omL") | ((with_reducible refine o_gsubv ‹_› ?_); k_extra "omL") | ((with_reducible refine o_gsubvl ‹_› ?_); k_extra "omL") | ((with_reducible refine o_gadd2 ‹_› ?_); k_extra "omL") | ((with_reducible refine o_gaddl ?_); k_extra "omL") | ((with_reducible refine o_gaddm ‹_› (by decide) ?_); k_extra "omL") | fail))
  (k_with "omR" => (first | (with_reducible (first | exact o_self (by decide))) | ((with_reducible refine o_ch ‹_› ?_); k_extra "omR") | ((with_reducible refine o_addch ?_); k_extra "omR") | fail))
  (k_with "omZ" => (first | (k_extra "omR") | (k_extra "omU") | (k_extra "omL") | fail))
  (k_with "omX" => (first | decide | (k_extra "omZ") | (with_reducible (first | exact Int.le_refl _ | exact Nat.le_refl _ | exact o_nle ‹_› (by decide) | exact o_nlt ‹_› (by decide) | exact o_nlel ‹_› (by decide))) | ((with_reducible refine o_ltc ?_); k_extra "omZ") | ((with_reducible refine o_gtc ?_); k_extra "omZ") | (with_reducible (first | exact o_iffn ‹_› ‹_› | exact o_neql ‹_› (by decide) | exact o_neqi ‹_› (by decide))) | ((with_reducible show _ < _); (first | (with_reducible exact Iff.mp ‹_› ‹_›) | k_extra "omA")) | ((repeat (rename _ ≠ _ => hz; clear hz)); (repeat (rename _ ≠ _ ∧ _ => hz; clear hz)); omega +splitDisjunctions) | fail))
  (k_with "omN" => (first | (with_reducible (first | exact o_n1 | exact o_n1' | exact o_ne ‹_› | exact o_ne' ‹_› | exact o_lt ‹_› | exact o_gt ‹_› | exact o_ne (by k_extra "omA") | exact o_ne' (by k_extra "omA") | exact o_lt (by k_extra "omA") | exact o_gt (by k_extra "omA") | exact o_lts1 (by k_extra "omA") | exact o_lts1' (by k_extra "omA") | exact o_lts2 (by k_extra "omA") | exact o_lts2' (by k_extra "omA") | exact o_gt2 ‹_› (by k_extra "omA") | exact o_lt2 ‹_› (by k_extra "omA"))) | fail))
  (k_with "om" => (first | with_reducible assumption | ((first | (with_reducible show _ ≤ _) | (with_reducible show _ < _)); k_extra "omX") | ((with_reducible show _ = _ → False); k_extra "omN") | fail))
  trivial
open PySem PySem.W PyProof.Rows PySem.Calls PyProof.Rows.LCg
theorem reg_empty : PySem.Challenge.rw_nn0125_01 = PySem.Challenge.rw_nn0125_01 ∧ KX = KX := by k_fill; exact ⟨rfl, rfl⟩
section
variable {w : World} {p : Program} {loose : List Str} {mean : ExcName → Option Value} {mg mb : Str → Option Value} {base : Heap} {outer : List Env} {s : Shared} {dp un : Nat} {gd : Option (List Code)}
theorem rg_Empty4 : True := by
  (k_with "exec For Name Call cons nil" => ((k_here; (rename Fr _ _ _ _ => lF'); (with_unfolding_all refine' For_invVF lF' ?k1z1 ?k2z1 ?_; (case k1z1 => exact rfl); (case k2z1 => exact rfl); k_whole))))
  (k_with "exec For Name Subscript cons nil" => ((k_here; (rename Fr _ _ _ _ => lF'); (with_unfolding_all refine' For_invVF lF' ?k1z2 ?k2z2 ?_; (case k1z2 => exact rfl); (case k2z2 => exact rfl); k_whole))))
  (k_with "k_ne" => (((try dsimp only); first | with_reducible assumption | with_reducible exact Ne.symm (by with_reducible assumption) | (refine neN ?_; omega))))
  (k_with "k_all" => (with_reducible assumption))
  (k_with "k_mem" => (((repeat (first | exact List.mem_cons_self | refine List.mem_cons_of_mem _ ?_)); (try (with_reducible_and_instances assumption)); done)))
  (k_with "call ref" => ((k_here; (with_reducible show wpAny _ _ (call (Value.ref 341) [_, Value.none]) _ _ _); k_dflt (refine' use_same (call_le (fetch_val ?hdpz6 ?hunz6 (cx_of ?Wz6 ?Bz6 ?F1z6 ?hkz6) isino_none) ?q1z6 ?q2z6 ?q3z6 ?q4z6) ?Fz6 ?Nz6 ?_; (case F1z6 => k_asm); (case Fz6 => k_asm); (case Nz6 => k_asm); (case Wz6 => assumption); (case Bz6 => assumption); (case q3z6 => exact rfl); (case hkz6 => exact ⟨rfl, rfl⟩); (case hdpz6 => exact Nat.le_refl _); (case hunz6 => exact Nat.le_refl _); (case q1z6 => exact rfl); (case q2z6 => exact le_of_ble rfl); (case q4z6 => exact le_of_ble rfl)); intro _ _ _ _; (try k_sweep))))
  (k_with "getMethod ref" => ((k_here; (with_reducible show wpAny _ _ (getMethod (Value.ref _) (PySem.Str.ofString "get") _) _ _ _); k_dflt (refine' led_method ?Nz7 ?mz7 ?dz7 ?_; (case Nz7 => k_asm); (case mz7 => k_mem); (case dz7 => assumption)))))
  (k_with "call builtin:dict.get" => ((k_here; k_dflt (refine' led_get ?Nz8 ?mz8 ?dz8 ?loz8 ?lz8 ?_; (case Nz8 => k_asm); (case mz8 => k_mem); (case dz8 => assumption); (case loz8 => assumption); (case lz8 => assumption)); (try dsimp only [Option.getD_none, Option.getD_some]))))
  (k_with "exec Raise some none" => ((k_here; k_dflt (refine Raise_fault rfl ?_))))
  (k_with "call ref" => ((k_here; (with_reducible show wpAny _ _ (call (Value.ref 59) _) _ _ _); k_dflt (refine' use_fault ?Xz10 ?a1z10 ?_; (case Xz10 => k_in); (case a1z10 => exact ⟨rfl, le_of_ble rfl, rfl, le_of_ble rfl⟩)); intro _ _ _ _)))
  trivial
set_option maxRecDepth 100000
set_option maxHeartbeats 8000000
theorem four_none {S dS T T2 : Addr} {k3 k4 : Tok} {oT : Obj} (Cc : Cx w p loose mean mg mb base outer s.heap) (hl : LedOk base outer s.heap [(S, instObj 405 dS), (dS, shD w k3 k4 T T2), (T, oT)]) :
    wpAny (model PW w) (kA 550 4750 gd outer) (call (.ref 433) [.ref S, .none]) (fun _ _ => False) (fun e s' => True ∧ Fail base outer s e s') s := by
  refine wpAny_call ?_
  have W' := Cc.W
  k_dflt (refine' enterC (binds := [(("shelf" : Str), .ref S), (("value" : Str), .none)]) (led := [(S, instObj 405 dS), (dS, shD w k3 k4 T T2), (T, oT)]) Cc hl ?k6 ?k7 ?k8 ?k9 ?kB ?kD ?_ ?c2 ?c3 ?c4; (case k6 => k_is); (case k7 => k_is); (case k8 => decide); (case k9 => exact BindsTo.of_eq rfl); (case kB => exact rfl); (case kD => decide +kernel); (case c2 => exact rfl); (case c3 => exact rfl); (case c4 => exact rfl))
  intro g L' h' tk' cells' G F' N' Y' l1 B' X' T'
  obtain ⟨oc1, hE', dc1⟩ := CellsAre.one Y'; subst hE'; clear Y'
  simp only [List.cons_append, List.nil_append] at N'
  (try dsimp only); (try k_fold)
  repeat' ((fail_if_success (with_reducible show ∃ _ _ _, _ = Value.ref _ ∧ _)); first | (k_unfold; (try dsimp only)) | walk1 | (dsimp only; walk1) | fail "no step")
  all_goals exact raise_end W' G hl (by assumption) (by assumption) (by assumption) (by simp only [List.forall_mem_cons]; exact ⟨by k_mem, by k_mem, by k_mem, fun _ hq => nomatch hq⟩) ⟨rfl, rfl⟩ (by assumption) (by assumption) trivial
theorem box_none {S dS T T2 pg dpg fd R : Addr} {k3 k4 k5 k6 : Tok} {oT ofd : Obj} {fkvs : List (Str × Value)} (Cc : Cx w p loose mean mg mb base outer s.heap)
    (hl : LedOk base outer s.heap [(S, instObj 405 dS), (dS, shD w k3 k4 T T2), (T, oT), (pg, instObj 424 dpg), (dpg, d2 w "reference" "fields" k5 k6 (.ref R) (.ref fd)), (fd, ofd)])
    (hfd : ofd.IsDictOf (strKind PW w) fkvs) (lo2 : (fd == sysModules) = false) (hmv : valueAt fkvs ("MediaBox" : Str) = none) :
    wpAny (model PW w) (kA 540 4700 gd outer) (call (.ref 438) [.ref S, .ref pg]) (fun _ _ => False) (fun e s' => True ∧ Fail base outer s e s') s := by
  refine wpAny_call ?_
  have W' := Cc.W
  k_dflt (refine' enterC (binds := [(("shelf" : Str), .ref S), (("page" : Str), .ref pg)]) (led := [(S, instObj 405 dS), (dS, shD w k3 k4 T T2), (T, oT), (pg, instObj 424 dpg), (dpg, d2 w "reference" "fields" k5 k6 (.ref R) (.ref fd)), (fd, ofd)]) Cc hl ?k6 ?k7 ?k8 ?k9 ?kB ?kD ?_ ?c2 ?c3 ?c4; (case k6 => k_is); (case k7 => k_is); (case k8 => decide); (case k9 => exact BindsTo.of_eq rfl); (case kB => exact rfl); (case kD => decide +kernel); (case c2 => exact rfl); (case c3 => exact rfl); (case c4 => exact rfl))
  intro g L' h' tk' cells' G F' N' Y' l1 B' X' T'
  obtain ⟨oc1, oc2, hE', dc1, dc2⟩ := CellsAre.two Y'; subst hE'; clear Y'
  k_lt l1
  simp only [List.cons_append, List.nil_append] at N'
  (try dsimp only); (try k_fold)
  repeat' ((fail_if_success (with_reducible show wpAny _ _ (call (Value.ref 433) _) _ _ _)); first | (k_unfold; (try dsimp only)) | walk1 | (dsimp only; walk1) | fail "no step")
  refine wpAny_mono (call_le (four_none (S := S) (dS := dS) (T := T) (k3 := k3) (k4 := k4) (T2 := T2) (oT := oT) (cx_of W' (by assumption) (by assumption) ⟨rfl, rfl⟩) (led_of ⟨rfl, rfl⟩ (by assumption) (by assumption) (by assumption) (by simp only [List.forall_mem_cons]; exact ⟨by k_mem, by k_mem, by k_mem, fun _ hq => nomatch hq⟩))) rfl (le_of_ble rfl) rfl (le_of_ble rfl)) (fun _ _ z => z.elim) fun e s' z => ?_
  (try dsimp only); (try k_unfold)
  exact on_end G hl (by assumption) (by assumption) (by assumption) (by simp only [List.forall_mem_cons]; exact ⟨by k_mem, by k_mem, by k_mem, by k_mem, by k_mem, by k_mem, fun _ hq => nomatch hq⟩) ⟨rfl, rfl⟩ z.2 trivial
end
end
section
theorem rg_Asks : True := by
  k_with_none
  (k_with "omA" => (first | (with_reducible (first | exact And.left ‹_› | exact And.left (And.right ‹_›) | exact And.left (And.right (And.right ‹_›)) | exact And.left (And.right (And.right (And.right ‹_›))) | exact And.left (And.right (And.right (And.right (And.right ‹_›)))) | exact And.left (And.right (And.right (And.right (And.right (And.right ‹_›))))) | exact And.left (And.right (And.right (And.right (And.right (And.right (And.right ‹_›)))))) | exact And.left (And.right (And.right (And.right (And.right (And.right (And.right (And.right ‹_›))))))) | exact And.left (And.right (And.right (And.right (And.right (And.right (And.right (And.right (And.right ‹_›)))))))) | exact And.left (And.right (And.right (And.right (And.right (And.right (And.right (And.right (And.right (And.right ‹_›))))))))) | exact And.left (And.right (And.right (And.right (And.right (And.right (And.right (And.right (And.right (And.right (And.right ‹_›)))))))))) | exact And.left (And.right (And.right (And.right (And.right (And.right (And.right (And.right (And.right (And.right (And.right (And.right ‹_›))))))))))) | exact And.left (And.right (And.right (And.right (And.right (And.right (And.right (And.right (And.right (And.right (And.right (And.right (And.right ‹_›)))))))))))) | exact And.left (And.right (And.right (And.right (And.right (And.right (And.right (And.right (And.right (And.right (And.right (And.right (And.right (And.right ‹_›))))))))))))) | exact And.left (And.right (And.right (And.right (And.right (And.right (And.right (And.right (And.right (And.right (And.right (And.right (And.right (And.right (And.right ‹_›)))))))))))))) | exact And.left (And.right (And.right (And.right (And.right (And.right (And.right (And.right (And.right (And.right (And.right (And.right (And.right (And.right (And.right (And.right ‹_›))))))))))))))) | exact And.left (And.right (And.right (And.right (And.right (And.right (And.right (And.right (And.right (And.right (And.right (And.right (And.right (And.right (And.right (And.right (And.right ‹_›)))))))))))))))) | exact And.right ‹_› | exact And.right (And.right ‹_›) | exact And.right (And.right (And.right ‹_›)) | exact And.right (And.right (And.right (And.right ‹_›))) | exact And.right (And.right (And.right (And.right (And.right ‹_›)))))) | fail))
  (k_with "omC" => (first | decide | fail))
  (k_with "omU" => (first | (k_extra "omC") | (with_reducible (first | exact o_le ‹_› (by decide) | exact o_lel ‹_› (by decide) | exact o_mul ‹_› (by decide) (by decide) | exact o_mull ‹_› (by decide) (by decide))) | ((with_reducible refine o_chl ‹_› ?_); k_extra "omU") | ((with_reducible refine o_addc ?_); k_extra "omU") | ((with_reducible refine o_subc ?_); k_extra "omU") | ((with_reducible refine o_subv ‹_› ?_); k_extra "omU") | ((with_reducible refine o_add2 ‹_› ?_); k_extra "omU") | ((with_reducible refine o_add2l ‹_› ?_); k_extra "omU") | ((with_reducible refine o_addl ?_); k_extra "omU") | ((with_reducible refine o_addm ‹_› (by decide) ?_); k_extra "omU") | fail))
  (k_with "omL" => (first | (k_extra "omC") | (with_reducible (first | exact o_ge ‹_› (by decide) | exact o_gel ‹_› (by decide) | exact o_gmul ‹_› (by decide) (by decide))) | ((with_reducible refine o_gaddc ?_); k_extra "omL") | ((with_reducible refine o_gsubc ?_); k_extra "omL") | ((with_reducible refine o_gsubv ‹_› ?_); k_extra "omL") | ((with_reducible refine o_gsubvl ‹_› ?_); k_extra "omL") | ((with_reducible refine o_gadd2 ‹_› ?_); k_extra "omL") | ((with_reducible refine o_gaddl ?_); k_extra "omL") | ((with_reducible refine o_gaddm ‹_› (by decide) ?_); k_extra "omL") | fail))
  (k_with "omR" => (first | (with_reducible (first | exact o_self (by decide))) | ((with_reducible refine o_ch ‹_› ?_); k_extra "omR") | ((with_reducible refine o_addch ?_); k_extra "omR") | fail))
  (k_with "omZ" => (first | (k_extra "omR") | (k_extra "omU") | (k_extra "omL") | fail))
  (k_with "omX" => (first | decide | (k_extra "omZ") | (with_reducible (first | exact Int.le_refl _ | exact Nat.le_refl _ | exact o_nle ‹_› (by decide) | exact o_nlt ‹_› (by decide) | exact o_nlel ‹_› (by decide))) | ((with_reducible refine o_ltc ?_); k_extra "omZ") | ((with_reducible refine o_gtc ?_); k_extra "omZ") | (with_reducible (first | exact o_iffn ‹_› ‹_› | exact o_neql ‹_› (by decide) | exact o_neqi ‹_› (by decide))) | ((with_reducible show _ < _); (first | (with_reducible exact Iff.mp ‹_› ‹_›) | k_extra "omA")) | ((repeat (rename _ ≠ _ => hz; clear hz)); (repeat (rename _ ≠ _ ∧ _ => hz; clear hz)); omega +splitDisjunctions) | fail))
  (k_with "omN" => (first | (with_reducible (first | exact o_n1 | exact o_n1' | exact o_ne ‹_› | exact o_ne' ‹_› | exact o_lt ‹_› | exact o_gt ‹_› | exact o_ne (by k_extra "omA") | exact o_ne' (by k_extra "omA") | exact o_lt (by k_extra "omA") | exact o_gt (by k_extra "omA") | exact o_lts1 (by k_extra "omA") | exact o_lts1' (by k_extra "omA") | exact o_lts2 (by k_extra "omA") | exact o_lts2' (by k_extra "omA") | exact o_gt2 ‹_› (by k_extra "omA") | exact o_lt2 ‹_› (by k_extra "omA"))) | fail))
  (k_with "om" => (first | with_reducible assumption | ((first | (with_reducible show _ ≤ _) | (with_reducible show _ < _)); k_extra "omX") | ((with_reducible show _ = _ → False); k_extra "omN") | fail))
  trivial
open PySem PySem.W PyProof.Rows PySem.Calls PyProof.Rows.LCg
theorem reg_asks : PySem.Challenge.rw_nn0125_01 = PySem.Challenge.rw_nn0125_01 ∧ KX = KX := by k_fill; exact ⟨rfl, rfl⟩
theorem led_more {base h h' : Heap} {outer : List Env} {env : Env} {led : Led} (hl : LedOk base outer h led) (k : ∀ b o, h.get? b = some o → h'.get? b = some o) (ne : ∀ b o, h.get? b = some o → env.frame ≠ some b) : LedOk base (env :: outer) h' led := fun q hq => ⟨k _ _ (hl q hq).1, (hl q hq).2.1, fun e he => by
  rcases List.mem_cons.mp he with rfl | he
  · exact ne _ _ (hl q hq).1
  · exact (hl q hq).2.2 e he⟩
abbrev noArgs : Arguments := { posonlyargs := [], args := [], vararg := none, kwonlyargs := [], kw_defaults := [], kwarg := none, defaults := [] }
abbrev boxScope : Scope := { kind := .function, names := [(PySem.Str.ofString "page", .free), (PySem.Str.ofString "shelf", .free), (PySem.Str.ofString "box", .globalImplicit)], isGenerator := false, isCoroutine := false, more := [] }
abbrev turnScope : Scope := { kind := .function, names := [(PySem.Str.ofString "fields", .free), (PySem.Str.ofString "shelf", .free), (PySem.Str.ofString "rotation", .globalImplicit), (PySem.Str.ofString "Page", .globalImplicit), (PySem.Str.ofString "Reference", .globalImplicit)], isGenerator := false, isCoroutine := false, more := [] }
abbrev emptyScope : Scope := { kind := .function, names := [(PySem.Str.ofString "empty", .free), (PySem.Str.ofString "box", .globalImplicit), (PySem.Str.ofString "Shelf", .globalImplicit)], isGenerator := false, isCoroutine := false, more := [] }
section
variable {w : World} {p : Program} {loose : List Str} {mean : ExcName → Option Value} {mg mb : Str → Option Value} {base : Heap} {outer : List Env} {s : Shared} {A A₀ : Around} {h₀ : Heap} {L : Addr} {m : Str → Option Value} {env : Env} {Q : Value → Shared → Prop} {E : Value → Shared → Prop} {news Z : Led}
theorem six_mem {a b c d e f : Addr × Obj} (m1 : a ∈ news) (m2 : b ∈ news) (m3 : c ∈ news) (m4 : d ∈ news) (m5 : e ∈ news) (m6 : f ∈ news) : ∀ q ∈ ([a, b, c, d, e, f] : Led), q ∈ news := by
  simp only [List.forall_mem_cons]
  exact ⟨m1, m2, m3, m4, m5, m6, fun _ hq => nomatch hq⟩
theorem use_bnone {S dS T T2 pg dpg fd R : Addr} {k3 k4 k5 k6 : Tok} {oT ofd : Obj} {fkvs : List (Str × Value)} (W : Wd w p loose mean mg mb base) (B : Below A₀ base outer h₀) (F : Fr h₀ L s.heap m) (N : News h₀ L s.heap news) (hk : EnvAt env L) (a1 : At A (env :: outer) 540 4700)
    (mS : (S, instObj 405 dS) ∈ news) (mdS : (dS, shD w k3 k4 T T2) ∈ news) (mT : (T, oT) ∈ news) (mpg : (pg, instObj 424 dpg) ∈ news) (mdpg : (dpg, d2 w "reference" "fields" k5 k6 (.ref R) (.ref fd)) ∈ news) (mfd : (fd, ofd) ∈ news)
    (hfd : ofd.IsDictOf (strKind PW w) fkvs) (lo2 : (fd == sysModules) = false) (hmv : valueAt fkvs ("MediaBox" : Str) = none)
    (kE : ∀ e s', Fail base (env :: outer) s e s' → E e s') : wpAny (model PW w) A (call (.ref 438) [.ref S, .ref pg]) Q E s :=
  wpAny_mono (call_le (box_none (gd := A.guards) (cx_of W B F hk) (led_of hk B F N (six_mem mS mdS mT mpg mdpg mfd)) hfd lo2 hmv) a1.h a1.d a1.f a1.u) (fun _ _ z => z.elim) fun e s' z => kE e s' z.2
theorem use_rnone {S dS T T2 pg dpg fd R : Addr} {k3 k4 k5 k6 : Tok} {oT ofd : Obj} {kvs : List (Int × Value)} {fkvs : List (Str × Value)} (W : Wd w p loose mean mg mb base) (B : Below A₀ base outer h₀) (F : Fr h₀ L s.heap m) (N : News h₀ L s.heap news) (hk : EnvAt env L) (a1 : At A (env :: outer) 540 4700)
    (mS : (S, instObj 405 dS) ∈ news) (mdS : (dS, shD w k3 k4 T T2) ∈ news) (mT : (T, oT) ∈ news) (mpg : (pg, instObj 424 dpg) ∈ news) (mdpg : (dpg, d2 w "reference" "fields" k5 k6 (.ref R) (.ref fd)) ∈ news) (mfd : (fd, ofd) ∈ news)
    (hd : oT.IsDictOf (intKind PW w) kvs) (lo : (T == sysModules) = false) (hTb : Tb kvs 0) (hfd : ofd.IsDictOf (strKind PW w) fkvs) (lo2 : (fd == sysModules) = false) (hmv : valueAt fkvs ("Rotate" : Str) = none)
    (k : ∀ kk h' tk, Fr h₀ L h' m → News h₀ L h' news → Q (.int 0 kk) { s with heap := h', toks := tk }) : wpAny (model PW w) A (call (.ref 445) [.ref S, .ref pg]) Q E s := by
  refine wpAny_mono (call_le (rot_ok (gd := A.guards) (Z := []) (due := some 0) (cx_of W B F hk) (led_of hk B F N (six_mem mS mdS mT mpg mdpg mfd)) hd lo hTb (by decide) hfd lo2 hmv (.inl ⟨rfl, rfl⟩)) a1.h a1.d a1.f a1.u) (fun r s' z => ?_) fun e s' z => nomatch z.1
  obtain ⟨q, hq, ok⟩ := z
  cases hq
  refine use_ok_post ok F N fun h' tk nw F' N' _ hp => ?_
  obtain ⟨rfl, kk, rfl⟩ := hp
  exact k kk h' tk F' N'
end
section
variable {w : World} {p : Program} {loose : List Str} {mean : ExcName → Option Value} {mg mb : Str → Option Value} {base : Heap} {outer : List Env} {s : Shared} {dp un : Nat} {gd : Option (List Code)}
theorem rg_Asks34 : True := by
  (k_with "exec For Name Call cons nil" => ((k_here; (rename Fr _ _ _ _ => lF'); (with_unfolding_all refine' For_invVF lF' ?k1z1 ?k2z1 ?_; (case k1z1 => exact rfl); (case k2z1 => exact rfl); k_whole))))
  (k_with "exec For Name Subscript cons nil" => ((k_here; (rename Fr _ _ _ _ => lF'); (with_unfolding_all refine' For_invVF lF' ?k1z2 ?k2z2 ?_; (case k1z2 => exact rfl); (case k2z2 => exact rfl); k_whole))))
  (k_with "k_ne" => (((try dsimp only); first | with_reducible assumption | with_reducible exact Ne.symm (by with_reducible assumption) | (refine neN ?_; omega))))
  (k_with "k_all" => (with_reducible assumption))
  (k_with "k_mem" => (((repeat (first | exact List.mem_cons_self | refine List.mem_cons_of_mem _ ?_)); (try (with_reducible_and_instances assumption)); done)))
  (k_with "eval Name" => ((k_here; k_dflt (refine' nameX_F ?Nz6 ?cz6 ?mz6 ?dz6 ?_ ?az6 ?bz6; (case az6 => rfl); (case bz6 => rfl); (case Nz6 => k_asm); (case cz6 => rfl); (case mz6 => k_mem); (case dz6 => assumption); k_whole))))
  (k_with "call ref" => ((k_here; (with_reducible show wpAny _ _ (call (Value.ref 289) _) _ _ _); k_dflt (refine' use_ref ?Wz7 ?Bz7 ?Fz7 ?Xz7 ?Nz7 ?hkz7 ?a1z7 ?_; (case Fz7 => k_asm); (case Xz7 => k_asm); (case Nz7 => k_asm); (case Wz7 => assumption); (case Bz7 => assumption); (case a1z7 => exact ⟨rfl, le_of_ble rfl, rfl, le_of_ble rfl⟩); (case hkz7 => exact ⟨rfl, rfl⟩)); intro _ _ _ _ _ _ _ _ _ _ l1; (try k_lt l1); revert l1; intro _ l2; (try k_lt2 l2); revert l2; intro _; (try k_sweep))))
  (k_with "call ref" => ((k_here; (with_reducible show wpAny _ _ (call (Value.ref 424) _) _ _ _); k_dflt (refine' use_page ?Wz8 ?Bz8 ?Fz8 ?Xz8 ?Nz8 ?hkz8 ?a1z8 ?_; (case Fz8 => k_asm); (case Xz8 => k_asm); (case Nz8 => k_asm); (case Wz8 => assumption); (case Bz8 => assumption); (case a1z8 => exact ⟨rfl, le_of_ble rfl, rfl, le_of_ble rfl⟩); (case hkz8 => exact ⟨rfl, rfl⟩)); intro _ _ _ _ _ _ _ _ l1; (try k_lt l1); revert l1; intro _ l2; (try k_lt2 l2); revert l2; intro _; (try k_sweep))))
  (k_with "call ref" => ((k_here; (with_reducible show wpAny _ _ (call (Value.ref 405) _) _ _ _); k_dflt (refine' use_shelf ?Wz9 ?Bz9 ?Fz9 ?Xz9 ?Nz9 ?hkz9 ?a1z9 ?_; (case Fz9 => k_asm); (case Xz9 => k_asm); (case Nz9 => k_asm); (case Wz9 => assumption); (case Bz9 => assumption); (case a1z9 => exact ⟨rfl, le_of_ble rfl, rfl, le_of_ble rfl⟩); (case hkz9 => exact ⟨rfl, rfl⟩)); intro _ _ _ _ _ _ _ _ _ _ _ _ _ _ _ _ _; (try k_sweep))))
  trivial
set_option maxRecDepth 100000
set_option maxHeartbeats 8000000
theorem lam_box {f c' cp cs S dS T T2 pg dpg fd R : Addr} {n : Int} {k3 k4 k5 k6 : Tok} {oc ocp ocs oT ofd : Obj} {kvs : List (Int × Value)} {fkvs : List (Str × Value)} {Z : Led} {mv : Value} {cv : Option Value} {md : Option Q4} {c : Option (Option Q4)}
    {qual : Str} {vs : Array Value} {t : Tok} {pm ctv : Value} {p1 p2 p3 p4 : Pos}
    (hl : LedOk base outer s.heap ((f, kla_obj "<lambda>" qual noArgs (.Call (.Name "box" p1) [.Name "shelf" p2, .Name "page" p3] [] p4) boxScope [("shelf", cs), ("page", cp)] pm c' ctv) :: (c', oc) :: (cp, ocp) :: (cs, ocs) :: (S, instObj 405 dS) :: (dS, shD w k3 k4 T T2) :: (T, oT) :: (pg, instObj 424 dpg) :: (dpg, d2 w "reference" "fields" k5 k6 (.ref R) (.ref fd)) :: (fd, ofd) :: Z))
    (hoc : oc.data = .fields vs) (hov : vs[1]? = some (.str qual t)) (dcp : ocp.data = .cell (some (.ref pg))) (dcs : ocs.data = .cell (some (.ref S)))
    (hd : oT.IsDictOf (intKind PW w) kvs) (lo : (T == sysModules) = false) (hTb : Tb kvs n) (hn : n ≤ 899)
    (hfd : ofd.IsDictOf (strKind PW w) fkvs) (lo2 : (fd == sysModules) = false) (hmv : valueAt fkvs ("MediaBox" : Str) = some mv) (hcv : valueAt fkvs ("CropBox" : Str) = cv) (hb : BoxV w Z kvs mv md) (hc : CropV w Z kvs cv c) :
    Asks w p loose mean mg mb base outer s.heap f (fun nw r => ∃ q, boxed md c = some q ∧ FourPost w Z q nw r) (boxed md c = none) := by
  intro gd env s₁ Cc kp ne
  have W' := Cc.W
  replace hl := led_more hl kp ne
  refine wpAny_call ?_
  k_dflt (refine' enterL (led := (f, kla_obj "<lambda>" qual noArgs (.Call (.Name "box" p1) [.Name "shelf" p2, .Name "page" p3] [] p4) boxScope [("shelf", cs), ("page", cp)] pm c' ctv) :: (c', oc) :: (cp, ocp) :: (cs, ocs) :: (S, instObj 405 dS) :: (dS, shD w k3 k4 T T2) :: (T, oT) :: (pg, instObj 424 dpg) :: (dpg, d2 w "reference" "fields" k5 k6 (.ref R) (.ref fd)) :: (fd, ofd) :: Z) Cc hl (.head _) (.tail _ (.head _)) hoc hov (by decide) rfl (locs rfl) ?_ rfl rfl rfl (by decide))
  intro g L' h' G hL' F' N' B' X' T'
  (try dsimp only); (try k_fold)
  repeat' ((fail_if_success (with_reducible show wpAny _ _ (call (Value.ref 438) _) _ _ _)); first | (k_unfold; (try dsimp only)) | walk1 | (dsimp only; walk1) | fail "no step")
  refine wpAny_mono (call_le (box_ok (cx_of W' (by assumption) (by assumption) ⟨rfl, rfl⟩) (led_of (led := (S, instObj 405 dS) :: (dS, shD w k3 k4 T T2) :: (T, oT) :: (pg, instObj 424 dpg) :: (dpg, d2 w "reference" "fields" k5 k6 (.ref R) (.ref fd)) :: (fd, ofd) :: Z) ⟨rfl, rfl⟩ (by assumption) (by assumption) (by assumption) (fun q hq => by repeat (first | exact hq | refine List.mem_cons_of_mem _ ?_))) hd lo hTb hn hfd lo2 hmv hcv hb hc) rfl (le_of_ble rfl) rfl (le_of_ble rfl)) (fun r s' z => ?_) fun e s' z => ?_
  · obtain ⟨q, hq, ok⟩ := z
    refine use_ok_post ok (by assumption) (by assumption) fun h' tk nw F' N' hd' hp => ?_
    (try dsimp only); (try k_unfold); (try dsimp only)
    exact still_end (nw := nw) G hl F' N' (fun q hq => List.mem_append_right _ hq) (fun q hq => ⟨List.mem_append_left _ hq, fun hm => by
      obtain ⟨x, hx, e⟩ := List.mem_map.mp hm
      exact hd' q hq x hx e⟩) ⟨q, hq, hp⟩
  · (try dsimp only); (try k_unfold)
    exact on_end G hl (by assumption) (by assumption) (by assumption) (fun q hq => hq) ⟨rfl, rfl⟩ z.2 z.1
theorem lam_turn {f c' cf cs S dS T T2 fd : Addr} {n : Int} {k3 k4 : Tok} {oc ocf ocs oT ofd : Obj} {kvs : List (Int × Value)} {fkvs : List (Str × Value)} {Z : Led} {cv : Option Value} {due : Option Int}
    {qual : Str} {vs : Array Value} {t : Tok} {pm ctv : Value} {p1 p2 p3 p4 p5 p6 p7 p8 p9 p10 : Pos}
    (hl : LedOk base outer s.heap ((f, kla_obj "<lambda>" qual noArgs (.Call (.Name "rotation" p1) [.Name "shelf" p2, .Call (.Name "Page" p3) [.Call (.Name "Reference" p4) [.Constant (.int 1) 0 p5, .Constant (.int 0) 0 p6] [] p7, .Name "fields" p8] [] p9] [] p10) turnScope [("shelf", cs), ("fields", cf)] pm c' ctv) :: (c', oc) :: (cf, ocf) :: (cs, ocs) :: (S, instObj 405 dS) :: (dS, shD w k3 k4 T T2) :: (T, oT) :: (fd, ofd) :: Z))
    (hoc : oc.data = .fields vs) (hov : vs[1]? = some (.str qual t)) (dcf : ocf.data = .cell (some (.ref fd))) (dcs : ocs.data = .cell (some (.ref S)))
    (hd : oT.IsDictOf (intKind PW w) kvs) (lo : (T == sysModules) = false) (hTb : Tb kvs n) (hn : n ≤ 899)
    (hfd : ofd.IsDictOf (strKind PW w) fkvs) (lo2 : (fd == sysModules) = false) (hcv : valueAt fkvs ("Rotate" : Str) = cv) (hc : RotV w Z kvs cv due) :
    Asks w p loose mean mg mb base outer s.heap f (fun nw r => ∃ q, due = some q ∧ ∃ k, r = .int q k) (due = none) := by
  intro gd env s₁ Cc kp ne
  have W' := Cc.W
  replace hl := led_more hl kp ne
  refine wpAny_call ?_
  k_dflt (refine' enterL (led := (f, kla_obj "<lambda>" qual noArgs (.Call (.Name "rotation" p1) [.Name "shelf" p2, .Call (.Name "Page" p3) [.Call (.Name "Reference" p4) [.Constant (.int 1) 0 p5, .Constant (.int 0) 0 p6] [] p7, .Name "fields" p8] [] p9] [] p10) turnScope [("shelf", cs), ("fields", cf)] pm c' ctv) :: (c', oc) :: (cf, ocf) :: (cs, ocs) :: (S, instObj 405 dS) :: (dS, shD w k3 k4 T T2) :: (T, oT) :: (fd, ofd) :: Z) Cc hl (.head _) (.tail _ (.head _)) hoc hov (by decide) rfl (locs rfl) ?_ rfl rfl rfl (by decide))
  intro g L' h' G hL' F' N' B' X' T'
  (try dsimp only); (try k_fold)
  repeat' ((fail_if_success (with_reducible show wpAny _ _ (call (Value.ref 445) _) _ _ _)); first | (k_unfold; (try dsimp only)) | walk1 | (dsimp only; walk1) | fail "no step")
  refine wpAny_mono (call_le (rot_ok (S := S) (dS := dS) (T := T) (k3 := k3) (k4 := k4) (T2 := T2) (oT := oT) (fd := fd) (ofd := ofd) (Z := Z) (cx_of W' (by assumption) (by assumption) ⟨rfl, rfl⟩) (led_of ⟨rfl, rfl⟩ (by assumption) (by assumption) (by assumption) (by simp only [List.forall_mem_cons]; exact ⟨by k_mem, by k_mem, by k_mem, by k_mem, by k_mem, by k_mem, fun q hq => by repeat (first | exact hq | refine List.mem_cons_of_mem _ ?_)⟩)) hd lo hTb hn hfd lo2 hcv hc) rfl (le_of_ble rfl) rfl (le_of_ble rfl)) (fun r s' z => ?_) fun e s' z => ?_
  · obtain ⟨q, hq, ok⟩ := z
    refine use_ok_post ok (by assumption) (by assumption) fun h' tk nw F' N' hd' hp => ?_
    (try dsimp only); (try k_unfold); (try dsimp only)
    exact still_end (nw := []) G hl F' N' (fun q hq => List.mem_append_right _ (by repeat (first | exact hq | refine List.mem_cons_of_mem _ ?_))) (fun _ hq => nomatch hq) ⟨q, hq, hp.2⟩
  · (try dsimp only); (try k_unfold)
    exact on_end G hl (by assumption) (by assumption) (by assumption) (fun q hq => by repeat (first | exact hq | refine List.mem_cons_of_mem _ ?_)) ⟨rfl, rfl⟩ z.2 z.1
theorem lam_empty {f c' ce pg dpg fd R : Addr} {k5 k6 : Tok} {oc oce ofd : Obj} {fkvs : List (Str × Value)}
    {qual : Str} {vs : Array Value} {t : Tok} {pm ctv : Value} {p1 p2 p3 p4 p5 : Pos}
    (hl : LedOk base outer s.heap [(f, kla_obj "<lambda>" qual noArgs (.Call (.Name "box" p1) [.Call (.Name "Shelf" p2) [] [] p3, .Name "empty" p4] [] p5) emptyScope [("empty", ce)] pm c' ctv), (c', oc), (ce, oce), (pg, instObj 424 dpg), (dpg, d2 w "reference" "fields" k5 k6 (.ref R) (.ref fd)), (fd, ofd)])
    (hoc : oc.data = .fields vs) (hov : vs[1]? = some (.str qual t)) (dce : oce.data = .cell (some (.ref pg)))
    (hfd : ofd.IsDictOf (strKind PW w) fkvs) (lo2 : (fd == sysModules) = false) (hmv : valueAt fkvs ("MediaBox" : Str) = none) :
    Asks w p loose mean mg mb base outer s.heap f (fun _ _ => False) True := by
  intro gd env s₁ Cc kp ne
  have W' := Cc.W
  replace hl := led_more hl kp ne
  refine wpAny_call ?_
  k_dflt (refine' enterL (led := [(f, kla_obj "<lambda>" qual noArgs (.Call (.Name "box" p1) [.Call (.Name "Shelf" p2) [] [] p3, .Name "empty" p4] [] p5) emptyScope [("empty", ce)] pm c' ctv), (c', oc), (ce, oce), (pg, instObj 424 dpg), (dpg, d2 w "reference" "fields" k5 k6 (.ref R) (.ref fd)), (fd, ofd)]) Cc hl (.head _) (.tail _ (.head _)) hoc hov (by decide) rfl (locs rfl) ?_ rfl rfl rfl (by decide))
  intro g L' h' G hL' F' N' B' X' T'
  (try dsimp only); (try k_fold)
  repeat' ((fail_if_success (with_reducible show wpAny _ _ (call (Value.ref 438) _) _ _ _)); first | (k_unfold; (try dsimp only)) | walk1 | (dsimp only; walk1) | fail "no step")
  refine' use_bnone ?W ?B ?F ?N ?hk ?a1 ?mS ?mdS ?mT ?mpg ?mdpg ?mfd hfd lo2 hmv ?kE
  case F => assumption
  case N => assumption
  case W => assumption
  case B => assumption
  case a1 => exact ⟨rfl, le_of_ble rfl, rfl, le_of_ble rfl⟩
  case hk => exact ⟨rfl, rfl⟩
  case mS => k_mem
  case mdS => k_mem
  case mT => k_mem
  case mpg => k_mem
  case mdpg => k_mem
  case mfd => k_mem
  case kE =>
    intro e s' z
    (try dsimp only); (try k_unfold)
    exact on_end G hl (by assumption) (by assumption) (by assumption) (by simp only [List.forall_mem_cons]; exact ⟨by k_mem, by k_mem, by k_mem, by k_mem, by k_mem, by k_mem, fun _ hq => nomatch hq⟩) ⟨rfl, rfl⟩ z trivial
end
end
section
theorem rg_Mid : True := by
  k_with_none
  (k_with "omA" => (first | (with_reducible (first | exact And.left ‹_› | exact And.left (And.right ‹_›) | exact And.left (And.right (And.right ‹_›)) | exact And.left (And.right (And.right (And.right ‹_›))) | exact And.left (And.right (And.right (And.right (And.right ‹_›)))) | exact And.left (And.right (And.right (And.right (And.right (And.right ‹_›))))) | exact And.left (And.right (And.right (And.right (And.right (And.right (And.right ‹_›)))))) | exact And.left (And.right (And.right (And.right (And.right (And.right (And.right (And.right ‹_›))))))) | exact And.left (And.right (And.right (And.right (And.right (And.right (And.right (And.right (And.right ‹_›)))))))) | exact And.left (And.right (And.right (And.right (And.right (And.right (And.right (And.right (And.right (And.right ‹_›))))))))) | exact And.left (And.right (And.right (And.right (And.right (And.right (And.right (And.right (And.right (And.right (And.right ‹_›)))))))))) | exact And.left (And.right (And.right (And.right (And.right (And.right (And.right (And.right (And.right (And.right (And.right (And.right ‹_›))))))))))) | exact And.left (And.right (And.right (And.right (And.right (And.right (And.right (And.right (And.right (And.right (And.right (And.right (And.right ‹_›)))))))))))) | exact And.left (And.right (And.right (And.right (And.right (And.right (And.right (And.right (And.right (And.right (And.right (And.right (And.right (And.right ‹_›))))))))))))) | exact And.left (And.right (And.right (And.right (And.right (And.right (And.right (And.right (And.right (And.right (And.right (And.right (And.right (And.right (And.right ‹_›)))))))))))))) | exact And.left (And.right (And.right (And.right (And.right (And.right (And.right (And.right (And.right (And.right (And.right (And.right (And.right (And.right (And.right (And.right ‹_›))))))))))))))) | exact And.left (And.right (And.right (And.right (And.right (And.right (And.right (And.right (And.right (And.right (And.right (And.right (And.right (And.right (And.right (And.right (And.right ‹_›)))))))))))))))) | exact And.right ‹_› | exact And.right (And.right ‹_›) | exact And.right (And.right (And.right ‹_›)) | exact And.right (And.right (And.right (And.right ‹_›))) | exact And.right (And.right (And.right (And.right (And.right ‹_›)))))) | fail))
  (k_with "omC" => (first | decide | fail))
  (k_with "omU" => (first | (k_extra "omC") | (with_reducible (first | exact o_le ‹_› (by decide) | exact o_lel ‹_› (by decide) | exact o_mul ‹_› (by decide) (by decide) | exact o_mull ‹_› (by decide) (by decide))) | ((with_reducible refine o_chl ‹_› ?_); k_extra "omU") | ((with_reducible refine o_addc ?_); k_extra "omU") | ((with_reducible refine o_subc ?_); k_extra "omU") | ((with_reducible refine o_subv ‹_› ?_); k_extra "omU") | ((with_reducible refine o_add2 ‹_› ?_); k_extra "omU") | ((with_reducible refine o_add2l ‹_› ?_); k_extra "omU") | ((with_reducible refine o_addl ?_); k_extra "omU") | ((with_reducible refine o_addm ‹_› (by decide) ?_); k_extra "omU") | fail))
  (k_with "omL" => (first | (k_extra "omC") | (with_reducible (first | exact o_ge ‹_› (by decide) | exact o_gel ‹_› (by decide) | exact o_gmul ‹_› (by decide) (by decide))) | ((with_reducible refine o_gaddc ?_); k_extra "omL") | ((with_reducible refine o_gsubc ?_); k_extra "omL") | ((with_reducible refine o_gsubv ‹_› ?_); k_extra "omL") | ((with_reducible refine o_gsubvl ‹_› ?_); k_extra "omL") | ((with_reducible refine o_gadd2 ‹_› ?_); k_extra "omL") | ((with_reducible refine o_gaddl ?_); k_extra "omL") | ((with_reducible refine o_gaddm ‹_› (by decide) ?_); k_extra "omL") | fail))
  (k_with "omR" => (first | (with_reducible (first | exact o_self (by decide))) | ((with_reducible refine o_ch ‹_› ?_); k_extra "omR") | ((with_reducible refine o_addch ?_); k_extra "omR") | fail))
  (k_with "omZ" => (first | (k_extra "omR") | (k_extra "omU") | (k_extra "omL") | fail))
  (k_with "omX" => (first | decide | (k_extra "omZ") | (with_reducible (first | exact Int.le_refl _ | exact Nat.le_refl _ | exact o_nle ‹_› (by decide) | exact o_nlt ‹_› (by decide) | exact o_nlel ‹_› (by decide))) | ((with_reducible refine o_ltc ?_); k_extra "omZ") | ((with_reducible refine o_gtc ?_); k_extra "omZ") | (with_reducible (first | exact o_iffn ‹_› ‹_› | exact o_neql ‹_› (by decide) | exact o_neqi ‹_› (by decide))) | ((with_reducible show _ < _); (first | (with_reducible exact Iff.mp ‹_› ‹_›) | k_extra "omA")) | ((repeat (rename _ ≠ _ => hz; clear hz)); (repeat (rename _ ≠ _ ∧ _ => hz; clear hz)); omega +splitDisjunctions) | fail))
  (k_with "omN" => (first | (with_reducible (first | exact o_n1 | exact o_n1' | exact o_ne ‹_› | exact o_ne' ‹_› | exact o_lt ‹_› | exact o_gt ‹_› | exact o_ne (by k_extra "omA") | exact o_ne' (by k_extra "omA") | exact o_lt (by k_extra "omA") | exact o_gt (by k_extra "omA") | exact o_lts1 (by k_extra "omA") | exact o_lts1' (by k_extra "omA") | exact o_lts2 (by k_extra "omA") | exact o_lts2' (by k_extra "omA") | exact o_gt2 ‹_› (by k_extra "omA") | exact o_lt2 ‹_› (by k_extra "omA"))) | fail))
  (k_with "om" => (first | with_reducible assumption | ((first | (with_reducible show _ ≤ _) | (with_reducible show _ < _)); k_extra "omX") | ((with_reducible show _ = _ → False); k_extra "omN") | fail))
  trivial
open PySem PySem.W PyProof.Rows PySem.Calls PyProof.Rows.LCg
section
variable {w : World} {p : Program} {loose : List Str} {mean : ExcName → Option Value} {mg mb : Str → Option Value} {base : Heap} {outer : List Env} {s : Shared} {A : Around} {g h₀ h : Heap} {L : Addr} {m m₀ : Str → Option Value} {env : Env} {news led : Led} {Q : Flow → Shared → Prop} {E : Value → Shared → Prop}
theorem dicts_cons (hk : EnvAt env L) (D : KtsDicts (frs outer) h₀) (F : Fr h₀ L h m) : KtsDicts (frs (env :: outer)) h := fun b hb => by
  rcases frs_cons hk hb with rfl | hb
  · obtain ⟨oL, es, ep, hL, hLd, _⟩ := F.ns
    exact ⟨oL, es, ep, hL, hLd⟩
  · obtain ⟨o, es, n, e, d⟩ := D b hb
    exact ⟨o, es, n, F.keep _ _ e, d⟩
theorem dicts_ground (hl : LedOk base outer s.heap led) (G : Ground s led g) (D : KtsDicts (frs outer) s.heap) : KtsDicts (frs outer) g := fun b hb => by
  obtain ⟨o, es, n, e, d⟩ := D b hb
  refine ⟨o, es, n, G.keep _ _ e fun hm => ?_, d⟩
  obtain ⟨x, hx, rfl⟩ := List.mem_map.mp hm
  obtain ⟨en, he, hf⟩ := List.mem_filterMap.mp hb
  exact (hl x hx).2.2 en he hf
inductive DueMid (h₀ : Heap) (L : Addr) (s : Shared) (m₀ : Str → Option Value) (news Z : Led) (md : Option Q4) (f : Flow) (s' : Shared) : Prop
  | mk : f = .next → ∀ dv h' tk, s' = { s with heap := h', toks := tk } → Fr h₀ L h' (fun y => if y = ("due" : Str) then some dv else m₀ y) → News h₀ L h' news → SidesV Z dv md → DueMid h₀ L s m₀ news Z md f s'
theorem due_end {h' : Heap} {tk : Nat} {news Z : Led} {md : Option Q4} {dv : Value} (F : Fr h₀ L h' (fun y => if y = ("due" : Str) then some dv else m₀ y)) (N : News h₀ L h' news) (h : SidesV Z dv md) : DueMid h₀ L s m₀ news Z md .next { s with heap := h', toks := tk } := ⟨rfl, dv, h', tk, rfl, F, N, h⟩
theorem join_due {prog : Program} {stmt : Stmt} {rest : List Stmt} {Z : Led} {md : Option Q4} (uF : Fr h₀ L s.heap m₀) (uN : News h₀ L s.heap news)
    (h1 : wpAny (model prog w) A (exec stmt env) (DueMid h₀ L s m₀ news Z md) E s)
    (h2 : ∀ dv h' tk, Fr h₀ L h' (fun y => if y = ("due" : Str) then some dv else m₀ y) → News h₀ L h' news → SidesV Z dv md → wpAny (model prog w) A (execs rest env) Q E { s with heap := h', toks := tk }) : wpAny (model prog w) A (execs (stmt :: rest) env) Q E s := by
  refine wpAny_execs_cons (wpAny_mono h1 (fun f s' z => ?_) fun _ _ z => z)
  obtain ⟨rfl, dv, h', tk, rfl, F', N', hd⟩ := z
  exact h2 dv h' tk F' N' hd
structure Clr (P S dS T fd c1 c2 PT : Addr) (Z : Led) : Prop where
  P : ∀ q ∈ Z, q.1 ≠ P
  S : ∀ q ∈ Z, q.1 ≠ S
  dS : ∀ q ∈ Z, q.1 ≠ dS
  T : ∀ q ∈ Z, q.1 ≠ T
  fd : ∀ q ∈ Z, q.1 ≠ fd
  c1 : ∀ q ∈ Z, q.1 ≠ c1
  c2 : ∀ q ∈ Z, q.1 ≠ c2
  PT : ∀ q ∈ Z, q.1 ≠ PT
theorem Clr.app {P S dS T fd c1 c2 PT : Addr} {Z A : Led} {o1 o2 o3 o4 o5 o6 o7 o8 : Obj} {news : Led} (h : Clr P S dS T fd c1 c2 PT Z) (d : ∀ q ∈ A, ∀ x ∈ news, x.1 ≠ q.1) (m1 : (P, o1) ∈ news) (m2 : (S, o2) ∈ news) (m3 : (dS, o3) ∈ news) (m4 : (T, o4) ∈ news) (m5 : (fd, o5) ∈ news) (m6 : (c1, o6) ∈ news) (m7 : (c2, o7) ∈ news) (m8 : (PT, o8) ∈ news) :
    Clr P S dS T fd c1 c2 PT (A ++ Z) := by
  have app : ∀ {a : Addr} {o : Obj}, (a, o) ∈ news → (∀ q ∈ Z, q.1 ≠ a) → ∀ q ∈ A ++ Z, q.1 ≠ a := fun ma hz q hq => (List.mem_append.mp hq).elim (fun hq e => d q hq _ ma e.symm) (hz q)
  exact ⟨app m1 h.P, app m2 h.S, app m3 h.dS, app m4 h.T, app m5 h.fd, app m6 h.c1, app m7 h.c2, app m8 h.PT⟩
theorem Clr.two {P S dS T fd c1 c2 PT x dx : Addr} {Z : Led} {ox odx o1 o2 o3 o4 o5 o6 o7 o8 : Obj} {news : Led} (h : Clr P S dS T fd c1 c2 PT Z) (l1 : ∀ q ∈ news, q.1 < dx) (l2 : dx < x) (m1 : (P, o1) ∈ news) (m2 : (S, o2) ∈ news) (m3 : (dS, o3) ∈ news) (m4 : (T, o4) ∈ news) (m5 : (fd, o5) ∈ news) (m6 : (c1, o6) ∈ news) (m7 : (c2, o7) ∈ news) (m8 : (PT, o8) ∈ news) :
    Clr P S dS T fd c1 c2 PT ((x, ox) :: (dx, odx) :: Z) := by
  refine Clr.app (A := [(x, ox), (dx, odx)]) h (fun q hq y hy => ?_) m1 m2 m3 m4 m5 m6 m7 m8
  rcases List.mem_cons.mp hq with rfl | hq
  · exact Nat.ne_of_lt (Nat.lt_trans (l1 y hy) l2)
  · rw [List.mem_singleton.mp hq]; exact Nat.ne_of_lt (l1 y hy)
theorem Clr.grow {P S dS T fd c1 c2 PT : Addr} {Z Z' : Led} {o5 o6 o7 o8 : Obj} (h : Clr P S dS T fd c1 c2 PT Z) (off : ∀ q ∈ Z', Off P S dS T q.1) (n : ∀ q ∈ Z', q ∈ Z ∨ ∀ x ∈ ([(fd, o5), (c2, o7), (c1, o6), (PT, o8)] : Led), x.1 ≠ q.1) : Clr P S dS T fd c1 c2 PT Z' :=
  ⟨off_P off, off_S off, off_dS off, off_T off, fun q hq => (n q hq).elim (h.fd q) fun z => Ne.symm (z _ (.head _)), fun q hq => (n q hq).elim (h.c1 q) fun z => Ne.symm (z _ (.tail _ (.tail _ (.head _)))),
    fun q hq => (n q hq).elim (h.c2 q) fun z => Ne.symm (z _ (.tail _ (.head _))), fun q hq => (n q hq).elim (h.PT q) fun z => Ne.symm (z _ (.tail _ (.tail _ (.tail _ (.head _)))))⟩
inductive CropMid (w : World) (h₀ : Heap) (L : Addr) (s : Shared) (P C S dS T T2 fd c1 c2 PT : Addr) (o1 o2 oPT : Obj) (k3 k4 : Tok) (spot : Int) (mv : Value) (md : Option Q4) (Z : Led) (f : Flow) (s' : Shared) : Prop
  | mk : f = .next → ∀ m' dv ofd fkvs spot' left' k1' k2' n' oT' kvs' n2 Z' cv c h' tk, s' = { s with heap := h', toks := tk } → Fr h₀ L h' m' → m' "due" = some dv → m' "fields" = some (.ref fd) → News h₀ L h' ((fd, ofd) :: (c2, o2) :: (c1, o1) :: (PT, oPT) :: (P, penO C spot' left' k1' k2' n') :: (S, instObj 405 dS) :: (dS, shD w k3 k4 T T2) :: (T, oT') :: Z') → ofd.IsDictOf (strKind PW w) fkvs → valueAt fkvs ("MediaBox" : Str) = some mv → valueAt fkvs ("CropBox" : Str) = cv → BoxV w Z' kvs' mv md → CropV w Z' kvs' cv c → SidesV Z' dv (boxed md c) → oT'.IsDictOf (intKind PW w) kvs' → Tb kvs' n2 → n2 ≤ 12 → 0 ≤ spot' → spot' ≤ spot + 50 → 0 ≤ left' → (∀ q ∈ Z, q ∈ Z') → Clr P S dS T fd c1 c2 PT Z' → CropMid w h₀ L s P C S dS T T2 fd c1 c2 PT o1 o2 oPT k3 k4 spot mv md Z f s'
theorem crop_end {P C S dS T T2 fd c1 c2 PT : Addr} {o1 o2 oPT : Obj} {k3 k4 : Tok} {spot : Int} {mv : Value} {md : Option Q4} {Z : Led} {m' : Str → Option Value} {dv : Value} {ofd : Obj} {fkvs : List (Str × Value)} {spot' left' : Int} {k1' k2' : Tok} {n' : Nat} {oT' : Obj} {kvs' : List (Int × Value)} {n2 : Int} {Z' all : Led} {cv : Option Value} {c : Option (Option Q4)} {h' : Heap} {tk : Nat}
    (F : Fr h₀ L h' m') (N : News h₀ L h' all) (sub : ∀ q ∈ ((fd, ofd) :: (c2, o2) :: (c1, o1) :: (PT, oPT) :: (P, penO C spot' left' k1' k2' n') :: (S, instObj 405 dS) :: (dS, shD w k3 k4 T T2) :: (T, oT') :: Z' : Led), q ∈ all) (e1 : m' "due" = some dv) (e2 : m' "fields" = some (.ref fd))
    (hfd : ofd.IsDictOf (strKind PW w) fkvs) (hmv : valueAt fkvs ("MediaBox" : Str) = some mv) (hcv : valueAt fkvs ("CropBox" : Str) = cv) (hb : BoxV w Z' kvs' mv md) (hc : CropV w Z' kvs' cv c) (hs : SidesV Z' dv (boxed md c)) (hd : oT'.IsDictOf (intKind PW w) kvs') (hTb : Tb kvs' n2) (hn : n2 ≤ 12)
    (q1 : 0 ≤ spot') (q2 : spot' ≤ spot + 50) (q3 : 0 ≤ left') (subZ : ∀ q ∈ Z, q ∈ Z') (hcl : Clr P S dS T fd c1 c2 PT Z') : CropMid w h₀ L s P C S dS T T2 fd c1 c2 PT o1 o2 oPT k3 k4 spot mv md Z .next { s with heap := h', toks := tk } :=
  ⟨rfl, m', dv, ofd, fkvs, spot', left', k1', k2', n', oT', kvs', n2, Z', cv, c, h', tk, rfl, F, e1, e2, fun q hq => N q (sub q hq), hfd, hmv, hcv, hb, hc, hs, hd, hTb, hn, q1, q2, q3, subZ, hcl⟩
theorem join_crop {prog : Program} {stmt : Stmt} {rest : List Stmt} {P C S dS T T2 fd c1 c2 PT : Addr} {o1 o2 oPT : Obj} {k3 k4 : Tok} {spot : Int} {mv : Value} {md : Option Q4} {Z : Led}
    (h1 : wpAny (model prog w) A (exec stmt env) (CropMid w h₀ L s P C S dS T T2 fd c1 c2 PT o1 o2 oPT k3 k4 spot mv md Z) E s)
    (h2 : ∀ (m' : Str → Option Value) dv ofd fkvs spot' left' k1' k2' n' oT' kvs' n2 Z' cv c h' tk, Fr h₀ L h' (fun y => if y = ("due" : Str) then some dv else (fun y => if y = ("fields" : Str) then some (.ref fd) else m' y) y) →
      News h₀ L h' ((fd, ofd) :: (c2, o2) :: (c1, o1) :: (PT, oPT) :: (P, penO C spot' left' k1' k2' n') :: (S, instObj 405 dS) :: (dS, shD w k3 k4 T T2) :: (T, oT') :: Z') →
      ofd.IsDictOf (strKind PW w) fkvs → valueAt fkvs ("MediaBox" : Str) = some mv → valueAt fkvs ("CropBox" : Str) = cv → BoxV w Z' kvs' mv md → CropV w Z' kvs' cv c → SidesV Z' dv (boxed md c) → oT'.IsDictOf (intKind PW w) kvs' → Tb kvs' n2 → n2 ≤ 12 →
      0 ≤ spot' → spot' ≤ spot + 50 → 0 ≤ left' → (∀ q ∈ Z, q ∈ Z') → Clr P S dS T fd c1 c2 PT Z' → wpAny (model prog w) A (execs rest env) Q E { s with heap := h', toks := tk }) : wpAny (model prog w) A (execs (stmt :: rest) env) Q E s := by
  refine wpAny_execs_cons (wpAny_mono h1 (fun f s' z => ?_) fun _ _ z => z)
  obtain ⟨rfl, m', dv, ofd, fkvs, spot', left', k1', k2', n', oT', kvs', n2, Z', cv, c, h', tk, rfl, F', e1, e2, N', hfd, hmv, hcv, hb, hc, hs, hd, hTb, hn, q1, q2, q3, subZ, hcl⟩ := z
  have e : m' = (fun y => if y = ("due" : Str) then some dv else (fun y => if y = ("fields" : Str) then some (.ref fd) else m' y) y) := funext fun y => by
    by_cases h1 : y = ("due" : Str)
    · subst h1; exact e1.trans (if_pos rfl).symm
    · by_cases h2 : y = ("fields" : Str)
      · subst h2; exact e2.trans ((if_neg h1).trans (if_pos rfl)).symm
      · exact ((if_neg h1).trans (if_neg h2)).symm
  rw [e] at F'
  exact h2 m' dv ofd fkvs spot' left' k1' k2' n' oT' kvs' n2 Z' cv c h' tk F' N' hfd hmv hcv hb hc hs hd hTb hn q1 q2 q3 subZ hcl
end
inductive HoldsPost (P C PT : Addr) (spot : Int) (line col : Nat) (qual : Str) (Y : Led) (nw : Led) (r : Value) : Prop
  | mk : ∀ spot' left' n' k1' k2' ps' A, nw = (P, penO C spot' left' k1' k2' n') :: (PT, tabObj ps') :: A → r = .bool true → TabSt (A ++ Y) line col qual ps' → 0 ≤ spot' → spot' ≤ spot + 60 → 0 ≤ left' → (∀ q ∈ A, q.1 ≠ P ∧ q.1 ≠ PT) → HoldsPost P C PT spot line col qual Y nw r
theorem holds_end {base g g' h : Heap} {outer : List Env} {s : Shared} {L P C PT c' : Addr} {o0 oT0 oc : Obj} {Y all rest : Led} {m : Str → Option Value} {sp lf spot : Int} {k1 k2 tl : Tok} {n tk line col : Nat} {ps : Array Value} {vsl : Array Value} {qual : Str} (G : Ground s ((P, o0) :: (PT, oT0) :: Y) g) (hl : LedOk base outer s.heap ((P, o0) :: (PT, oT0) :: Y))
    (Tn : KtsTurn (frs outer) g g') (F : Fr g' L h m) (N : News g' L h all) (sub : ∀ q ∈ rest, q ∈ all) (mP : (P, penO C sp lf k1 k2 n) ∈ rest) (mT : (PT, tabObj ps) ∈ rest) (mc : (c', oc) ∈ rest) (mY : ∀ q ∈ Y, q ∈ rest) (hps : ps = #[rawInt line, rawInt col, .ref c']) (hoc : oc.data = .fields vsl) (hov : vsl[1]? = some (.str qual tl))
    (lc : (c', oc) ∈ Y ∨ c' ≠ P ∧ c' ≠ PT ∧ ∀ q ∈ Y, q.1 ≠ c') (x1 : 0 ≤ sp) (x2 : sp ≤ spot + 60) (x3 : 0 ≤ lf) : OkS outer s [P, PT] (HoldsPost P C PT spot line col qual Y) (.bool true) { s with heap := h, toks := tk } := by
  have hk : ∀ q ∈ ((P, o0) :: (PT, oT0) :: Y : Led), q.1 ∉ [P, PT] → q ∈ all := fun q hq hn => by
    rcases List.mem_cons.mp hq with rfl | hq
    · exact absurd (.head _) hn
    · rcases List.mem_cons.mp hq with rfl | hq
      · exact absurd (.tail _ (.head _)) hn
      · exact sub _ (mY q hq)
  rcases lc with lc | ⟨n1, n2, n3⟩
  · refine led_endS2 (nw := [(P, penO C sp lf k1 k2 n), (PT, tabObj ps)]) G hl Tn F N hk (fun q hq => ?_) ⟨sp, lf, n, k1, k2, ps, [], rfl, rfl, .inr ⟨c', oc, vsl, tl, hps, lc, hoc, hov⟩, x1, x2, x3, fun _ hq => nomatch hq⟩
    rcases List.mem_cons.mp hq with rfl | hq
    · exact ⟨sub _ mP, .inl (.head _)⟩
    · rw [List.mem_singleton.mp hq]; exact ⟨sub _ mT, .inl (.tail _ (.head _))⟩
  · refine led_endS2 (nw := [(P, penO C sp lf k1 k2 n), (PT, tabObj ps), (c', oc)]) G hl Tn F N hk (fun q hq => ?_) ⟨sp, lf, n, k1, k2, ps, [(c', oc)], rfl, rfl, .inr ⟨c', oc, vsl, tl, hps, .head _, hoc, hov⟩, x1, x2, x3, fun q hq => by rw [List.mem_singleton.mp hq]; exact ⟨n1, n2⟩⟩
    rcases List.mem_cons.mp hq with rfl | hq
    · exact ⟨sub _ mP, .inl (.head _)⟩
    · rcases List.mem_cons.mp hq with rfl | hq
      · exact ⟨sub _ mT, .inl (.tail _ (.head _))⟩
      · rw [List.mem_singleton.mp hq]
        refine ⟨sub _ mc, .inr fun hm => ?_⟩
        rcases List.mem_cons.mp hm with e | hm
        · exact n1 e
        · rcases List.mem_cons.mp hm with e | hm
          · exact n2 e
          · obtain ⟨x, hx, e⟩ := List.mem_map.mp hm
            exact n3 x hx e
theorem app_sub {A Z B : Led} (h : ∀ q ∈ Z, q ∈ B) : ∀ q ∈ A ++ Z, q ∈ A ++ B := fun q hq => (List.mem_append.mp hq).elim (fun h => List.mem_append_left _ h) fun hz => List.mem_append_right _ (h q hz)
theorem boxed_none {md : Option Q4} : boxed md none = md := by cases md <;> rfl
theorem boxed_bad {md : Option Q4} : boxed md (some none) = none := by cases md <;> rfl
end
section
theorem rg_TMid : True := by
  k_with_none
  (k_with "omA" => (first | (with_reducible (first | exact And.left ‹_› | exact And.left (And.right ‹_›) | exact And.left (And.right (And.right ‹_›)) | exact And.left (And.right (And.right (And.right ‹_›))) | exact And.left (And.right (And.right (And.right (And.right ‹_›)))) | exact And.left (And.right (And.right (And.right (And.right (And.right ‹_›))))) | exact And.left (And.right (And.right (And.right (And.right (And.right (And.right ‹_›)))))) | exact And.left (And.right (And.right (And.right (And.right (And.right (And.right (And.right ‹_›))))))) | exact And.left (And.right (And.right (And.right (And.right (And.right (And.right (And.right (And.right ‹_›)))))))) | exact And.left (And.right (And.right (And.right (And.right (And.right (And.right (And.right (And.right (And.right ‹_›))))))))) | exact And.left (And.right (And.right (And.right (And.right (And.right (And.right (And.right (And.right (And.right (And.right ‹_›)))))))))) | exact And.left (And.right (And.right (And.right (And.right (And.right (And.right (And.right (And.right (And.right (And.right (And.right ‹_›))))))))))) | exact And.left (And.right (And.right (And.right (And.right (And.right (And.right (And.right (And.right (And.right (And.right (And.right (And.right ‹_›)))))))))))) | exact And.left (And.right (And.right (And.right (And.right (And.right (And.right (And.right (And.right (And.right (And.right (And.right (And.right (And.right ‹_›))))))))))))) | exact And.left (And.right (And.right (And.right (And.right (And.right (And.right (And.right (And.right (And.right (And.right (And.right (And.right (And.right (And.right ‹_›)))))))))))))) | exact And.left (And.right (And.right (And.right (And.right (And.right (And.right (And.right (And.right (And.right (And.right (And.right (And.right (And.right (And.right (And.right ‹_›))))))))))))))) | exact And.left (And.right (And.right (And.right (And.right (And.right (And.right (And.right (And.right (And.right (And.right (And.right (And.right (And.right (And.right (And.right (And.right ‹_›)))))))))))))))) | exact And.right ‹_› | exact And.right (And.right ‹_›) | exact And.right (And.right (And.right ‹_›)) | exact And.right (And.right (And.right (And.right ‹_›))) | exact And.right (And.right (And.right (And.right (And.right ‹_›)))))) | fail))
  (k_with "omC" => (first | decide | fail))
  (k_with "omU" => (first | (k_extra "omC") | (with_reducible (first | exact o_le ‹_› (by decide) | exact o_lel ‹_› (by decide) | exact o_mul ‹_› (by decide) (by decide) | exact o_mull ‹_› (by decide) (by decide))) | ((with_reducible refine o_chl ‹_› ?_); k_extra "omU") | ((with_reducible refine o_addc ?_); k_extra "omU") | ((with_reducible refine o_subc ?_); k_extra "omU") | ((with_reducible refine o_subv ‹_› ?_); k_extra "omU") | ((with_reducible refine o_add2 ‹_› ?_); k_extra "omU") | ((with_reducible refine o_add2l ‹_› ?_); k_extra "omU") | ((with_reducible refine o_addl ?_); k_extra "omU") | ((with_reducible refine o_addm ‹_› (by decide) ?_); k_extra "omU") | fail))
  (k_with "omL" => (first | (k_extra "omC") | (with_reducible (first | exact o_ge ‹_› (by decide) | exact o_gel ‹_› (by decide) | exact o_gmul ‹_› (by decide) (by decide))) | ((with_reducible refine o_gaddc ?_); k_extra "omL") | ((with_reducible refine o_gsubc ?_); k_extra "omL") | ((with_reducible refine o_gsubv ‹_› ?_); k_extra "omL") | ((with_reducible refine o_gsubvl ‹_› ?_); k_extra "omL") | ((with_reducible refine o_gadd2 ‹_› ?_); k_extra "omL") | ((with_reducible refine o_gaddl ?_); k_extra "omL") | ((with_reducible refine o_gaddm ‹_› (by decide) ?_); k_extra "omL") | fail))
  (k_with "omR" => (first | (with_reducible (first | exact o_self (by decide))) | ((with_reducible refine o_ch ‹_› ?_); k_extra "omR") | ((with_reducible refine o_addch ?_); k_extra "omR") | fail))
  (k_with "omZ" => (first | (k_extra "omR") | (k_extra "omU") | (k_extra "omL") | fail))
  (k_with "omX" => (first | decide | (k_extra "omZ") | (with_reducible (first | exact Int.le_refl _ | exact Nat.le_refl _ | exact o_nle ‹_› (by decide) | exact o_nlt ‹_› (by decide) | exact o_nlel ‹_› (by decide))) | ((with_reducible refine o_ltc ?_); k_extra "omZ") | ((with_reducible refine o_gtc ?_); k_extra "omZ") | (with_reducible (first | exact o_iffn ‹_› ‹_› | exact o_neql ‹_› (by decide) | exact o_neqi ‹_› (by decide))) | ((with_reducible show _ < _); (first | (with_reducible exact Iff.mp ‹_› ‹_›) | k_extra "omA")) | ((repeat (rename _ ≠ _ => hz; clear hz)); (repeat (rename _ ≠ _ ∧ _ => hz; clear hz)); omega +splitDisjunctions) | fail))
  (k_with "omN" => (first | (with_reducible (first | exact o_n1 | exact o_n1' | exact o_ne ‹_› | exact o_ne' ‹_› | exact o_lt ‹_› | exact o_gt ‹_› | exact o_ne (by k_extra "omA") | exact o_ne' (by k_extra "omA") | exact o_lt (by k_extra "omA") | exact o_gt (by k_extra "omA") | exact o_lts1 (by k_extra "omA") | exact o_lts1' (by k_extra "omA") | exact o_lts2 (by k_extra "omA") | exact o_lts2' (by k_extra "omA") | exact o_gt2 ‹_› (by k_extra "omA") | exact o_lt2 ‹_› (by k_extra "omA"))) | fail))
  (k_with "om" => (first | with_reducible assumption | ((first | (with_reducible show _ ≤ _) | (with_reducible show _ < _)); k_extra "omX") | ((with_reducible show _ = _ → False); k_extra "omN") | fail))
  trivial
open PySem PySem.W PyProof.Rows PySem.Calls PyProof.Rows.LCg
def TDue (dv : Value) (due : Option Int) : Prop := (∃ d k, due = some d ∧ dv = .int d k) ∨ (due = none ∧ ∃ k, dv = .str "refused" k)
theorem tdue_one {q o : Int} {k : Tok} (h : o = 0) : TDue (.int (q.fmod 4 * 90) k) (turnQ (90 * q + o)) := by
  subst h
  refine .inl ⟨_, k, ?_, rfl⟩
  rw [turn_some (by omega), Int.fmod_eq_emod_of_nonneg _ (by omega)]
  congr 1
  omega
theorem tdue_none {q o : Int} {k : Tok} (h : ¬o = 0) (ho : o = 0 ∨ o = 1 ∨ o = 45) : TDue (.str "refused" k) (turnQ (90 * q + o)) :=
  .inr ⟨turn_none (by omega), k, rfl⟩
theorem offs (k : Nat) : ([0, 0, 0, 1, 45] : List Int).getD k 0 = 0 ∨ ([0, 0, 0, 1, 45] : List Int).getD k 0 = 1 ∨ ([0, 0, 0, 1, 45] : List Int).getD k 0 = 45 := by
  rcases k with _ | _ | _ | _ | _ | k <;> simp
section
variable {w : World} {p : Program} {loose : List Str} {mean : ExcName → Option Value} {mg mb : Str → Option Value} {base : Heap} {outer : List Env} {s : Shared} {A : Around} {g h₀ h : Heap} {L : Addr} {m m₀ : Str → Option Value} {env : Env} {news led : Led} {Q : Flow → Shared → Prop} {E : Value → Shared → Prop}
inductive OffMid (h₀ : Heap) (L : Addr) (s : Shared) (m₀ : Str → Option Value) (g : Obj → Led) (C : Addr) (spot : Int) (f : Flow) (s' : Shared) : Prop
  | mk : f = .next → ∀ q kq o ko spot' left' n' k1' k2' h' tk, s' = { s with heap := h', toks := tk } → Fr h₀ L h' (fun y => if y = ("quarters" : Str) then some (.int q kq) else (fun y => if y = ("off" : Str) then some (.int o ko) else m₀ y) y) → News h₀ L h' (g (penO C spot' left' k1' k2' n')) → -5 ≤ q → q ≤ 5 → ((o = 0 ∨ o = 1 ∨ o = 45)) → 0 ≤ spot' → spot' ≤ spot + 2 → 0 ≤ left' → OffMid h₀ L s m₀ g C spot f s'
theorem off_end {h' : Heap} {tk : Nat} {all : Led} {g : Obj → Led} {C : Addr} {spot spot' left' q o : Int} {kq ko k1' k2' : Tok} {n' : Nat} (F : Fr h₀ L h' (fun y => if y = ("quarters" : Str) then some (.int q kq) else (fun y => if y = ("off" : Str) then some (.int o ko) else m₀ y) y)) (N : News h₀ L h' all) (sub : ∀ x ∈ g (penO C spot' left' k1' k2' n'), x ∈ all)
    (b1 : -5 ≤ q) (b2 : q ≤ 5) (b3 : o = 0 ∨ o = 1 ∨ o = 45) (q3 : 0 ≤ spot') (q4 : spot' ≤ spot + 2) (q5 : 0 ≤ left') : OffMid h₀ L s m₀ g C spot .next { s with heap := h', toks := tk } :=
  ⟨rfl, q, kq, o, ko, spot', left', n', k1', k2', h', tk, rfl, F, fun x hx => N x (sub x hx), b1, b2, b3, q3, q4, q5⟩
theorem join_off {prog : Program} {stmt : Stmt} {rest : List Stmt} {P C : Addr} {g : Obj → Led} {spot left : Int} {k1 k2 : Tok} {n : Nat} (uF : Fr h₀ L s.heap m₀) (uN : News h₀ L s.heap news) (uU : UpdF P (penO C spot left k1 k2 n) news g)
    (h1 : wpAny (model prog w) A (exec stmt env) (OffMid h₀ L s m₀ g C spot) E s)
    (h2 : ∀ q kq o ko spot' left' n' k1' k2' h' tk, Fr h₀ L h' (fun y => if y = ("quarters" : Str) then some (.int q kq) else (fun y => if y = ("off" : Str) then some (.int o ko) else m₀ y) y) → News h₀ L h' (g (penO C spot' left' k1' k2' n')) → -5 ≤ q → q ≤ 5 → (o = 0 ∨ o = 1 ∨ o = 45) → 0 ≤ spot' → spot' ≤ spot + 2 → 0 ≤ left' →
      wpAny (model prog w) A (execs rest env) Q E { s with heap := h', toks := tk }) : wpAny (model prog w) A (execs (stmt :: rest) env) Q E s := by
  refine wpAny_execs_cons (wpAny_mono h1 (fun f s' z => ?_) fun _ _ z => z)
  obtain ⟨rfl, q, kq, o, ko, spot', left', n', k1', k2', h', tk, rfl, F', N', b1, b2, b3, b4, b5, b6⟩ := z
  exact h2 q kq o ko spot' left' n' k1' k2' h' tk F' N' b1 b2 b3 b4 b5 b6
inductive OneMid (h₀ : Heap) (L : Addr) (s : Shared) (m₀ : Str → Option Value) (news : Led) (f : Flow) (s' : Shared) : Prop
  | mk : f = .next → ∀ n kn dv h' tk, s' = { s with heap := h', toks := tk } → Fr h₀ L h' (fun y => if y = ("one" : Str) then some (.int n kn) else (fun y => if y = ("due" : Str) then some dv else m₀ y) y) → News h₀ L h' news → TDue dv (turnQ n) → -1000 ≤ n → n ≤ 1000 → OneMid h₀ L s m₀ news f s'
theorem one_end {h' : Heap} {tk : Nat} {all : Led} {n : Int} {kn : Tok} {dv : Value} (F : Fr h₀ L h' (fun y => if y = ("one" : Str) then some (.int n kn) else (fun y => if y = ("due" : Str) then some dv else m₀ y) y)) (N : News h₀ L h' all) (sub : ∀ x ∈ news, x ∈ all) (ht : TDue dv (turnQ n)) (b1 : -1000 ≤ n) (b2 : n ≤ 1000) :
    OneMid h₀ L s m₀ news .next { s with heap := h', toks := tk } := ⟨rfl, n, kn, dv, h', tk, rfl, F, fun x hx => N x (sub x hx), ht, b1, b2⟩
theorem join_one {prog : Program} {stmt : Stmt} {rest : List Stmt} (uF : Fr h₀ L s.heap m₀) (uN : News h₀ L s.heap news)
    (h1 : wpAny (model prog w) A (exec stmt env) (OneMid h₀ L s m₀ news) E s)
    (h2 : ∀ n kn dv h' tk, Fr h₀ L h' (fun y => if y = ("one" : Str) then some (.int n kn) else (fun y => if y = ("due" : Str) then some dv else m₀ y) y) → News h₀ L h' news → TDue dv (turnQ n) → -1000 ≤ n → n ≤ 1000 → wpAny (model prog w) A (execs rest env) Q E { s with heap := h', toks := tk }) :
    wpAny (model prog w) A (execs (stmt :: rest) env) Q E s := by
  refine wpAny_execs_cons (wpAny_mono h1 (fun f s' z => ?_) fun _ _ z => z)
  obtain ⟨rfl, n, kn, dv, h', tk, rfl, F', N', b1, b2, b3⟩ := z
  exact h2 n kn dv h' tk F' N' b1 b2 b3
inductive TurnMid (w : World) (h₀ : Heap) (L : Addr) (s : Shared) (P C S dS T T2 c1 c2 PT : Addr) (o1 o2 oPT : Obj) (k3 k4 : Tok) (spot way : Int) (kw : Tok) (Z : Led) (f : Flow) (s' : Shared) : Prop
  | mk : f = .next → ∀ m' one dv due spot' left' k1' k2' n' oT' kvs' n2 Z' h' tk, s' = { s with heap := h', toks := tk } → Fr h₀ L h' m' → m' "one" = some one → m' "due" = some dv → m' "way" = some (.int way kw) → News h₀ L h' ((c2, o2) :: (c1, o1) :: (PT, oPT) :: (P, penO C spot' left' k1' k2' n') :: (S, instObj 405 dS) :: (dS, shD w k3 k4 T T2) :: (T, oT') :: Z') → RotV w Z' kvs' (some one) due → TDue dv due → oT'.IsDictOf (intKind PW w) kvs' → Tb kvs' n2 → n2 ≤ 12 → 0 ≤ spot' → spot' ≤ spot + 10 → 0 ≤ left' → (∀ q ∈ Z, q ∈ Z') → Clr P S dS T P c1 c2 PT Z' → TurnMid w h₀ L s P C S dS T T2 c1 c2 PT o1 o2 oPT k3 k4 spot way kw Z f s'
theorem turn_end {P C S dS T T2 c1 c2 PT : Addr} {o1 o2 oPT : Obj} {k3 k4 kw : Tok} {spot way : Int} {Z : Led} {m' : Str → Option Value} {one dv : Value} {due : Option Int} {spot' left' : Int} {k1' k2' : Tok} {n' : Nat} {oT' : Obj} {kvs' : List (Int × Value)} {n2 : Int} {Z' all : Led} {h' : Heap} {tk : Nat}
    (F : Fr h₀ L h' m') (N : News h₀ L h' all) (sub : ∀ q ∈ ((c2, o2) :: (c1, o1) :: (PT, oPT) :: (P, penO C spot' left' k1' k2' n') :: (S, instObj 405 dS) :: (dS, shD w k3 k4 T T2) :: (T, oT') :: Z' : Led), q ∈ all) (e1 : m' "one" = some one) (e2 : m' "due" = some dv) (e3 : m' "way" = some (.int way kw))
    (hr : RotV w Z' kvs' (some one) due) (ht : TDue dv due) (hd : oT'.IsDictOf (intKind PW w) kvs') (hTb : Tb kvs' n2) (hn : n2 ≤ 12) (q1 : 0 ≤ spot') (q2 : spot' ≤ spot + 10) (q3 : 0 ≤ left') (subZ : ∀ q ∈ Z, q ∈ Z') (hcl : Clr P S dS T P c1 c2 PT Z') :
    TurnMid w h₀ L s P C S dS T T2 c1 c2 PT o1 o2 oPT k3 k4 spot way kw Z .next { s with heap := h', toks := tk } :=
  ⟨rfl, m', one, dv, due, spot', left', k1', k2', n', oT', kvs', n2, Z', h', tk, rfl, F, e1, e2, e3, fun q hq => N q (sub q hq), hr, ht, hd, hTb, hn, q1, q2, q3, subZ, hcl⟩
theorem join_turn {prog : Program} {stmt : Stmt} {rest : List Stmt} {P C S dS T T2 c1 c2 PT : Addr} {o1 o2 oPT : Obj} {k3 k4 kw : Tok} {spot way : Int} {Z : Led}
    (h1 : wpAny (model prog w) A (exec stmt env) (TurnMid w h₀ L s P C S dS T T2 c1 c2 PT o1 o2 oPT k3 k4 spot way kw Z) E s)
    (h2 : ∀ (m' : Str → Option Value) one dv due spot' left' k1' k2' n' oT' kvs' n2 Z' h' tk, Fr h₀ L h' (fun y => if y = ("one" : Str) then some one else (fun y => if y = ("due" : Str) then some dv else (fun y => if y = ("way" : Str) then some (.int way kw) else m' y) y) y) →
      News h₀ L h' ((c2, o2) :: (c1, o1) :: (PT, oPT) :: (P, penO C spot' left' k1' k2' n') :: (S, instObj 405 dS) :: (dS, shD w k3 k4 T T2) :: (T, oT') :: Z') → RotV w Z' kvs' (some one) due → TDue dv due → oT'.IsDictOf (intKind PW w) kvs' → Tb kvs' n2 → n2 ≤ 12 → 0 ≤ spot' → spot' ≤ spot + 10 → 0 ≤ left' →
      (∀ q ∈ Z, q ∈ Z') → Clr P S dS T P c1 c2 PT Z' → wpAny (model prog w) A (execs rest env) Q E { s with heap := h', toks := tk }) : wpAny (model prog w) A (execs (stmt :: rest) env) Q E s := by
  refine wpAny_execs_cons (wpAny_mono h1 (fun f s' z => ?_) fun _ _ z => z)
  obtain ⟨rfl, m', one, dv, due, spot', left', k1', k2', n', oT', kvs', n2, Z', h', tk, rfl, F', e1, e2, e3, N', hr, ht, hd, hTb, hn, q1, q2, q3, subZ, hcl⟩ := z
  have e : m' = (fun y => if y = ("one" : Str) then some one else (fun y => if y = ("due" : Str) then some dv else (fun y => if y = ("way" : Str) then some (.int way kw) else m' y) y) y) := funext fun y => by
    by_cases h1 : y = ("one" : Str)
    · subst h1; exact e1.trans (if_pos rfl).symm
    · by_cases h2 : y = ("due" : Str)
      · subst h2; exact e2.trans ((if_neg h1).trans (if_pos rfl)).symm
      · by_cases h3 : y = ("way" : Str)
        · subst h3; exact e3.trans ((if_neg h1).trans ((if_neg h2).trans (if_pos rfl))).symm
        · exact ((if_neg h1).trans ((if_neg h2).trans (if_neg h3))).symm
  rw [e] at F'
  exact h2 m' one dv due spot' left' k1' k2' n' oT' kvs' n2 Z' h' tk F' N' hr ht hd hTb hn q1 q2 q3 subZ hcl
inductive FldMid (w : World) (h₀ : Heap) (L : Addr) (s : Shared) (m₀ : Str → Option Value) (c1 PT : Addr) (g : Obj → Led) (one : Value) (way : Int) (f : Flow) (s' : Shared) : Prop
  | mk : f = .next → ∀ fd ofd fkvs o1 cv h' tk, s' = { s with heap := h', toks := tk } → Fr h₀ L h' m₀ → News h₀ L h' ((fd, ofd) :: g o1) → o1.data = .cell (some (.ref fd)) → ofd.IsDictOf (strKind PW w) fkvs → (fd == sysModules) = false → valueAt fkvs ("Rotate" : Str) = cv → @Ne Nat fd PT → (((way = 3 ∧ cv = none) ∨ (¬way = 3 ∧ cv = some one))) → FldMid w h₀ L s m₀ c1 PT g one way f s'
theorem fld_end {h' : Heap} {tk : Nat} {all : Led} {c1 PT fd : Addr} {g : Obj → Led} {one : Value} {way : Int} {ofd o1 : Obj} {fkvs : List (Str × Value)} {cv : Option Value} (F : Fr h₀ L h' m₀) (N : News h₀ L h' all) (sub : ∀ x ∈ (fd, ofd) :: g o1, x ∈ all) (h1 : o1.data = .cell (some (.ref fd))) (h2 : ofd.IsDictOf (strKind PW w) fkvs) (h3 : (fd == sysModules) = false)
    (h4 : valueAt fkvs ("Rotate" : Str) = cv) (h5 : @Ne Nat fd PT) (h6 : (way = 3 ∧ cv = none) ∨ (¬way = 3 ∧ cv = some one)) : FldMid w h₀ L s m₀ c1 PT g one way .next { s with heap := h', toks := tk } :=
  ⟨rfl, fd, ofd, fkvs, o1, cv, h', tk, rfl, F, fun x hx => N x (sub x hx), h1, h2, h3, h4, h5, h6⟩
theorem join_fld {prog : Program} {stmt : Stmt} {rest : List Stmt} {c1 PT : Addr} {o1 : Obj} {g : Obj → Led} {one : Value} {way : Int} (uF : Fr h₀ L s.heap m₀) (uN : News h₀ L s.heap news) (uU : UpdF c1 o1 news g)
    (h1 : wpAny (model prog w) A (exec stmt env) (FldMid w h₀ L s m₀ c1 PT g one way) E s)
    (h2 : ∀ fd ofd fkvs o1 cv h' tk, Fr h₀ L h' m₀ → News h₀ L h' ((fd, ofd) :: g o1) → o1.data = .cell (some (.ref fd)) → ofd.IsDictOf (strKind PW w) fkvs → (fd == sysModules) = false → valueAt fkvs ("Rotate" : Str) = cv → @Ne Nat fd PT → ((way = 3 ∧ cv = none) ∨ (¬way = 3 ∧ cv = some one)) →
      wpAny (model prog w) A (execs rest env) Q E { s with heap := h', toks := tk }) : wpAny (model prog w) A (execs (stmt :: rest) env) Q E s := by
  refine wpAny_execs_cons (wpAny_mono h1 (fun f s' z => ?_) fun _ _ z => z)
  obtain ⟨rfl, fd, ofd, fkvs, o1, cv, h', tk, rfl, F', N', a1, a2, a3, a4, a5, a6⟩ := z
  exact h2 fd ofd fkvs o1 cv h' tk F' N' a1 a2 a3 a4 a5 a6
theorem item3 {prog : Program} {E : Value → Shared → Prop} {Q : Value → Shared → Prop} {value slice : PySem.Expr} {l : Addr} {v0 v1 v2 : Value} {k : Int} {u : Tok} (hl : s.heap.IsList l #[v0, v1, v2]) (h0 : 0 ≤ k) (h1 : k < 3) (h : ∀ r, (r = v0 ∨ r = v1 ∨ r = v2) → Q r s)
    (hs : subscripted slice false (.ref l) (.int k u) = operate [.ref l, .int k u] (getItem (.ref l) (.int k u)) := by with_unfolding_all rfl) : wpAny (model prog w) A (subscriptTail value slice (.ref l) (.int k u)) Q E s := by
  have hk : k = 0 ∨ k = 1 ∨ k = 2 := by omega
  rcases hk with rfl | rfl | rfl
  · exact item_litK (vs := [v0, v1, v2]) hl (by decide) (by decide) rfl (h _ (.inl rfl)) hs
  · exact item_litK (vs := [v0, v1, v2]) hl (by decide) (by decide) rfl (h _ (.inr (.inl rfl))) hs
  · exact item_litK (vs := [v0, v1, v2]) hl (by decide) (by decide) rfl (h _ (.inr (.inr rfl))) hs
theorem Clr.cons {P S dS T fd c1 c2 PT x : Addr} {ox : Obj} {Z : Led} (h : Clr P S dS T fd c1 c2 PT Z) (n : @Ne Nat x P ∧ @Ne Nat x S ∧ @Ne Nat x dS ∧ @Ne Nat x T ∧ @Ne Nat x fd ∧ @Ne Nat x c1 ∧ @Ne Nat x c2 ∧ @Ne Nat x PT) : Clr P S dS T fd c1 c2 PT ((x, ox) :: Z) := by
  obtain ⟨n1, n2, n3, n4, n5, n6, n7, n8⟩ := n
  exact ⟨List.forall_mem_cons.mpr ⟨n1, h.P⟩, List.forall_mem_cons.mpr ⟨n2, h.S⟩, List.forall_mem_cons.mpr ⟨n3, h.dS⟩, List.forall_mem_cons.mpr ⟨n4, h.T⟩, List.forall_mem_cons.mpr ⟨n5, h.fd⟩, List.forall_mem_cons.mpr ⟨n6, h.c1⟩, List.forall_mem_cons.mpr ⟨n7, h.c2⟩, List.forall_mem_cons.mpr ⟨n8, h.PT⟩⟩
theorem Clr.lt2 {P S dS T c1 c2 PT x dx : Addr} {ox odx : Obj} {Z : Led} {R : Prop} (h : Clr P S dS T P c1 c2 PT Z) (l : S < dx ∧ dS < dx ∧ T < dx ∧ c2 < dx ∧ c1 < dx ∧ P < dx ∧ PT < dx ∧ R) (l2 : dx < x) : Clr P S dS T P c1 c2 PT ((x, ox) :: (dx, odx) :: Z) := by
  obtain ⟨a1, a2, a3, a4, a5, a6, a7, _⟩ := l
  have f : ∀ {a : Addr}, a < dx → @Ne Nat dx a ∧ @Ne Nat x a := fun h => ⟨Nat.ne_of_gt h, Nat.ne_of_gt (Nat.lt_trans h l2)⟩
  exact (h.cons ⟨(f a6).1, (f a1).1, (f a2).1, (f a3).1, (f a6).1, (f a5).1, (f a4).1, (f a7).1⟩).cons ⟨(f a6).2, (f a1).2, (f a2).2, (f a3).2, (f a6).2, (f a5).2, (f a4).2, (f a7).2⟩
theorem made_any {vs : List (Value × Value)} {P : Heap → Prop} (F : Fr h₀ L h m) (N : News h₀ L h news) (hbig : h₀.NoLimit) (hk : allStrKeys vs = true) (hn : ((strPairs vs).map (·.1)).Nodup)
    (k : ∀ h' o, Fr h₀ L h' m → News h₀ L h' ((h.objs.size, o) :: news) → (∀ p ∈ news, p.1 < h.objs.size) → (h.objs.size == sysModules) = false → o.IsDictOf (strKind PW w) (strPairs vs) → P h') :
    ∃ kvs, Carries (strKind PW w) vs kvs ∧ (h.push { cls := .type "dict", data := .dict #[] }).DictOf (strKind PW w) h.objs.size [] ∧
      ∀ h', h'.DictOf (strKind PW w) h.objs.size (merged [] kvs) → Heap.SameBut h.objs.size (h.push { cls := .type "dict", data := .dict #[] }) h' → P h' :=
  made_str F N hk hn fun h' o F' N' hd => k h' o F' N' (fun p hp => Heap.lt_size (N p hp).1) (F.notModules (modules_low hbig)) hd
end
theorem holds_endb {base g g' h : Heap} {outer : List Env} {s : Shared} {L P C PT c' : Addr} {o0 oT0 oc : Obj} {Y all rest : Led} {m : Str → Option Value} {sp lf spot : Int} {k1 k2 tl : Tok} {n tk line col : Nat} {ps : Array Value} {vsl : Array Value} {qual : Str} {b : Bool} (hb : b = true) (G : Ground s ((P, o0) :: (PT, oT0) :: Y) g) (hl : LedOk base outer s.heap ((P, o0) :: (PT, oT0) :: Y))
    (Tn : KtsTurn (frs outer) g g') (F : Fr g' L h m) (N : News g' L h all) (sub : ∀ q ∈ rest, q ∈ all) (mP : (P, penO C sp lf k1 k2 n) ∈ rest) (mT : (PT, tabObj ps) ∈ rest) (mc : (c', oc) ∈ rest) (mY : ∀ q ∈ Y, q ∈ rest) (hps : ps = #[rawInt line, rawInt col, .ref c']) (hoc : oc.data = .fields vsl) (hov : vsl[1]? = some (.str qual tl))
    (lc : (c', oc) ∈ Y ∨ c' ≠ P ∧ c' ≠ PT ∧ ∀ q ∈ Y, q.1 ≠ c') (x1 : 0 ≤ sp) (x2 : sp ≤ spot + 60) (x3 : 0 ≤ lf) : OkS outer s [P, PT] (HoldsPost P C PT spot line col qual Y) (.bool b) { s with heap := h, toks := tk } := by
  subst hb
  exact holds_end G hl Tn F N sub mP mT mc mY hps hoc hov lc x1 x2 x3
end
section
theorem rg_TurnH : True := by
  k_with_none
  (k_with "omA" => (first | (with_reducible (first | exact And.left ‹_› | exact And.left (And.right ‹_›) | exact And.left (And.right (And.right ‹_›)) | exact And.left (And.right (And.right (And.right ‹_›))) | exact And.left (And.right (And.right (And.right (And.right ‹_›)))) | exact And.left (And.right (And.right (And.right (And.right (And.right ‹_›))))) | exact And.left (And.right (And.right (And.right (And.right (And.right (And.right ‹_›)))))) | exact And.left (And.right (And.right (And.right (And.right (And.right (And.right (And.right ‹_›))))))) | exact And.left (And.right (And.right (And.right (And.right (And.right (And.right (And.right (And.right ‹_›)))))))) | exact And.left (And.right (And.right (And.right (And.right (And.right (And.right (And.right (And.right (And.right ‹_›))))))))) | exact And.left (And.right (And.right (And.right (And.right (And.right (And.right (And.right (And.right (And.right (And.right ‹_›)))))))))) | exact And.left (And.right (And.right (And.right (And.right (And.right (And.right (And.right (And.right (And.right (And.right (And.right ‹_›))))))))))) | exact And.left (And.right (And.right (And.right (And.right (And.right (And.right (And.right (And.right (And.right (And.right (And.right (And.right ‹_›)))))))))))) | exact And.left (And.right (And.right (And.right (And.right (And.right (And.right (And.right (And.right (And.right (And.right (And.right (And.right (And.right ‹_›))))))))))))) | exact And.left (And.right (And.right (And.right (And.right (And.right (And.right (And.right (And.right (And.right (And.right (And.right (And.right (And.right (And.right ‹_›)))))))))))))) | exact And.left (And.right (And.right (And.right (And.right (And.right (And.right (And.right (And.right (And.right (And.right (And.right (And.right (And.right (And.right (And.right ‹_›))))))))))))))) | exact And.left (And.right (And.right (And.right (And.right (And.right (And.right (And.right (And.right (And.right (And.right (And.right (And.right (And.right (And.right (And.right (And.right ‹_›)))))))))))))))) | exact And.right ‹_› | exact And.right (And.right ‹_›) | exact And.right (And.right (And.right ‹_›)) | exact And.right (And.right (And.right (And.right ‹_›))) | exact And.right (And.right (And.right (And.right (And.right ‹_›)))))) | fail))
  (k_with "omC" => (first | decide | fail))
  (k_with "omU" => (first | (k_extra "omC") | (with_reducible (first | exact o_le ‹_› (by decide) | exact o_lel ‹_› (by decide) | exact o_mul ‹_› (by decide) (by decide) | exact o_mull ‹_› (by decide) (by decide))) | ((with_reducible refine o_chl ‹_› ?_); k_extra "omU") | ((with_reducible refine o_addc ?_); k_extra "omU") | ((with_reducible refine o_subc ?_); k_extra "omU") | ((with_reducible refine o_subv ‹_› ?_); k_extra "omU") | ((with_reducible refine o_add2 ‹_› ?_); k_extra "omU") | ((with_reducible refine o_add2l ‹_› ?_); k_extra "omU") | ((with_reducible refine o_addl ?_); k_extra "omU") | ((with_reducible refine o_addm ‹_› (by decide) ?_); k_extra "omU") | fail))
  (k_with "omL" => (first | (k_extra "omC") | (with_reducible (first | exact o_ge ‹_› (by decide) | exact o_gel ‹_› (by decide) | exact o_gmul ‹_› (by decide) (by decide))) | ((with_reducible refine o_gaddc ?_); k_extra "omL") | ((with_reducible refine o_gsubc ?_); k_extra "omL") | ((with_reducible refine o_gsubv ‹_› ?_); k_extra "omL") | ((with_reducible refine o_gsubvl ‹_› ?_); k_extra "omL") | ((with_reducible refine o_gadd2 ‹_› ?_); k_extra "omL") | ((with_reducible refine o_gaddl ?_); k_extra "omL") | ((with_reducible refine o_gaddm ‹_› (by decide) ?_); k_extra "omL") | fail))
  (k_with "omR" => (first | (with_reducible (first | exact o_self (by decide))) | ((with_reducible refine o_ch ‹_› ?_); k_extra "omR") | ((with_reducible refine o_addch ?_); k_extra "omR") | fail))
  (k_with "omZ" => (first | (k_extra "omR") | (k_extra "omU") | (k_extra "omL") | fail))
  (k_with "omX" => (first | decide | (k_extra "omZ") | (with_reducible (first | exact Int.le_refl _ | exact Nat.le_refl _ | exact o_nle ‹_› (by decide) | exact o_nlt ‹_› (by decide) | exact o_nlel ‹_› (by decide))) | ((with_reducible refine o_ltc ?_); k_extra "omZ") | ((with_reducible refine o_gtc ?_); k_extra "omZ") | (with_reducible (first | exact o_iffn ‹_› ‹_› | exact o_neql ‹_› (by decide) | exact o_neqi ‹_› (by decide))) | ((with_reducible show _ < _); (first | (with_reducible exact Iff.mp ‹_› ‹_›) | k_extra "omA")) | ((repeat (rename _ ≠ _ => hz; clear hz)); (repeat (rename _ ≠ _ ∧ _ => hz; clear hz)); omega +splitDisjunctions) | fail))
  (k_with "omN" => (first | (with_reducible (first | exact o_n1 | exact o_n1' | exact o_ne ‹_› | exact o_ne' ‹_› | exact o_lt ‹_› | exact o_gt ‹_› | exact o_ne (by k_extra "omA") | exact o_ne' (by k_extra "omA") | exact o_lt (by k_extra "omA") | exact o_gt (by k_extra "omA") | exact o_lts1 (by k_extra "omA") | exact o_lts1' (by k_extra "omA") | exact o_lts2 (by k_extra "omA") | exact o_lts2' (by k_extra "omA") | exact o_gt2 ‹_› (by k_extra "omA") | exact o_lt2 ‹_› (by k_extra "omA"))) | fail))
  (k_with "om" => (first | with_reducible assumption | ((first | (with_reducible show _ ≤ _) | (with_reducible show _ < _)); k_extra "omX") | ((with_reducible show _ = _ → False); k_extra "omN") | fail))
  trivial
open PySem PySem.W PyProof.Rows PySem.Calls PyProof.Rows.LCg
theorem reg_turnh : PySem.Challenge.rw_nn0125_01 = PySem.Challenge.rw_nn0125_01 ∧ KX = KX := by k_fill; exact ⟨rfl, rfl⟩
theorem hd_turn (P : Params) : hdIn (KX P) 508 504 = true := by kernel_rfl
abbrev turnQual : Str := PySem.Str.ofString "_law_turn_holds.<locals>.<lambda>"
section
theorem rg_TurnH5 : True := by
  (k_with "exec For Name Call cons nil" => ((k_here; (rename Fr _ _ _ _ => lF'); (with_unfolding_all refine' For_invVF lF' ?k1z1 ?k2z1 ?_; (case k1z1 => exact rfl); (case k2z1 => exact rfl); k_whole))))
  (k_with "exec For Name Subscript cons nil" => ((k_here; (rename Fr _ _ _ _ => lF'); (with_unfolding_all refine' For_invVF lF' ?k1z2 ?k2z2 ?_; (case k1z2 => exact rfl); (case k2z2 => exact rfl); k_whole))))
  trivial
local macro_rules | `(tactic| k_lt $h:ident) => `(tactic| replace $h := allLt_of $h)
variable {w : World} {p : Program} {loose : List Str} {mean : ExcName → Option Value} {mg mb : Str → Option Value} {base : Heap} {outer : List Env} {s : Shared} {dp un : Nat} {gd : Option (List Code)}
theorem rg_TurnH8 : True := by
  (k_with "k_ne" => (((try dsimp only); k_dflt (first | with_reducible assumption | with_reducible exact Ne.symm (by with_reducible assumption) | (refine' ne_all ?hz3 ?mz3; (case hz3 => with_reducible assumption); (case mz3 => k_mem)) | (refine' ne_all' ?hz3 ?mz3; (case hz3 => with_reducible assumption); (case mz3 => k_mem)) | (refine' ne_m1 ?hz3 ?mz3; (case hz3 => with_reducible assumption); (case mz3 => k_mem)) | (refine' ne_m2 ?hz3 ?mz3; (case hz3 => with_reducible assumption); (case mz3 => k_mem)) | (refine' ne_m3 ?hz3 ?mz3; (case hz3 => with_reducible assumption); (case mz3 => k_mem)) | (refine' ne_m1' ?hz3 ?mz3; (case hz3 => with_reducible assumption); (case mz3 => k_mem)) | (refine' ne_m2' ?hz3 ?mz3; (case hz3 => with_reducible assumption); (case mz3 => k_mem)) | (refine' ne_m3' ?hz3 ?mz3; (case hz3 => with_reducible assumption); (case mz3 => k_mem)) | (refine' ne_l ?hz3; with_reducible assumption) | (refine' ne_g ?hz3; with_reducible assumption) | (refine' ne_all2 ?gz3 ?hz3 ?mz3; (case gz3 => with_reducible assumption); (case hz3 => with_reducible assumption); (case mz3 => k_mem)) | (refine' ne_all2' ?gz3 ?hz3 ?mz3; (case gz3 => with_reducible assumption); (case hz3 => with_reducible assumption); (case mz3 => k_mem)) | (refine' ne_s1 ?hz3 ?mz3; (case hz3 => with_reducible assumption); (case mz3 => k_mem)) | (refine' ne_s2 ?hz3 ?mz3; (case hz3 => with_reducible assumption); (case mz3 => k_mem)) | (refine' ne_s1' ?hz3 ?mz3; (case hz3 => with_reducible assumption); (case mz3 => k_mem)) | (refine' ne_s2' ?hz3 ?mz3; (case hz3 => with_reducible assumption); (case mz3 => k_mem)) | exact ne_ss | exact ne_ss' | ((try simp only [AllLt, and_true] at *); refine neN ?_; omega)))))
  (k_with "k_all" => (with_reducible assumption))
  (k_with "k_mem" => (((repeat (first | exact List.mem_cons_self | refine List.mem_cons_of_mem _ ?_)); (try (with_reducible_and_instances assumption)); done)))
  (k_with "call ref" => ((k_here; (with_reducible show wpAny _ _ (call (Value.ref 289) _) _ _ _); k_dflt (refine' use_ref ?Wz6 ?Bz6 ?Fz6 ?Xz6 ?Nz6 ?hkz6 ?a1z6 ?_; (case Fz6 => k_asm); (case Xz6 => k_asm); (case Nz6 => k_asm); (case Wz6 => assumption); (case Bz6 => assumption); (case a1z6 => exact ⟨rfl, le_of_ble rfl, rfl, le_of_ble rfl⟩); (case hkz6 => exact ⟨rfl, rfl⟩)); intro _ _ _ _ _ _ _ _ _ _ l1; (try k_lt l1); revert l1; intro _ l2; (try k_lt2 l2); revert l2; intro _; (try k_sweep))))
  (k_with "call ref" => ((k_here; (with_reducible show wpAny _ _ (call (Value.ref 424) _) _ _ _); k_dflt (refine' use_page ?Wz7 ?Bz7 ?Fz7 ?Xz7 ?Nz7 ?hkz7 ?a1z7 ?_; (case Fz7 => k_asm); (case Xz7 => k_asm); (case Nz7 => k_asm); (case Wz7 => assumption); (case Bz7 => assumption); (case a1z7 => exact ⟨rfl, le_of_ble rfl, rfl, le_of_ble rfl⟩); (case hkz7 => exact ⟨rfl, rfl⟩)); intro _ _ _ _ _ _ _ _ l1; (try k_lt l1); revert l1; intro _ l2; (try k_lt2 l2); revert l2; intro _; (try k_sweep))))
  (k_with "call ref" => ((k_here; (with_reducible show wpAny _ _ (call (Value.ref 405) _) _ _ _); k_dflt (refine' use_shelf ?Wz8 ?Bz8 ?Fz8 ?Xz8 ?Nz8 ?hkz8 ?a1z8 ?_; (case Fz8 => k_asm); (case Xz8 => k_asm); (case Nz8 => k_asm); (case Wz8 => assumption); (case Bz8 => assumption); (case a1z8 => exact ⟨rfl, le_of_ble rfl, rfl, le_of_ble rfl⟩); (case hkz8 => exact ⟨rfl, rfl⟩)); intro _ _ _ _ _ _ _ _ _ _ _ _ _ _ _ _ _; (try k_sweep))))
  (k_with "call ref" => ((k_here; (with_reducible show wpAny _ _ (call (Value.ref 457) _) _ _ _); k_dflt (refine' use_draw ?Wz9 ?Bz9 ?Fz9 ?Nz9 ?hkz9 ?a1z9 ?Uz9 ?hCz9 ?hCPz9 ?hIz9 ?hlz9 ?hs0z9 ?hs1z9 ?hl0z9 ?hm0z9 ?hm1z9 ?_; (case Fz9 => k_asm); (case Nz9 => k_asm); (case Wz9 => assumption); (case Bz9 => assumption); (case Uz9 => k_updF); (case a1z9 => exact ⟨rfl, le_of_ble rfl, rfl, le_of_ble rfl⟩); (case hkz9 => exact ⟨rfl, rfl⟩); (case hCz9 => first | assumption | exact stays_list (Fr.keep (by assumption)) (by assumption)); (case hCPz9 => assumption); (case hIz9 => assumption); (case hlz9 => assumption); (case hs0z9 => omega); (case hs1z9 => omega); (case hl0z9 => omega); (case hm0z9 => first | decide | omega); (case hm1z9 => first | decide | omega)); intro _ _ _ _ _ _ _ _ _ _ N'; (try dsimp only at N'); revert N'; intro _ _ _ _ _ _; (try k_sweep))))
  (k_with "call ref" => ((k_here; (with_reducible show wpAny _ _ (call (Value.ref 155) _) _ _ _); k_dflt (refine' use_dec ?Wz10 ?Bz10 ?Fz10 ?Xz10 ?Nz10 ?hkz10 ?a1z10 ?b1z10 ?b2z10 ?b3z10 ?b4z10 ?_; (case Fz10 => k_asm); (case Xz10 => k_asm); (case Nz10 => k_asm); (case Wz10 => assumption); (case Bz10 => assumption); (case a1z10 => exact ⟨rfl, le_of_ble rfl, rfl, le_of_ble rfl⟩); (case hkz10 => exact ⟨rfl, rfl⟩); (case b1z10 => omega); (case b2z10 => omega); (case b3z10 => omega); (case b4z10 => omega)); intro _ _ _ _ _ _ _ _ _ _ _ _ l1; (try k_lt l1); revert l1; intro _ l2; (try k_lt2 l2); revert l2; intro _ _ _ _ _ _; (try k_sweep))))
  (k_with "call ref" => ((k_here; (with_reducible show wpAny _ _ (call (Value.ref 218) _) _ _ _); k_dflt (refine' use_name ?Wz11 ?Bz11 ?Fz11 ?Xz11 ?Nz11 ?hkz11 ?a1z11 ?_; (case Fz11 => k_asm); (case Xz11 => k_asm); (case Nz11 => k_asm); (case Wz11 => assumption); (case Bz11 => assumption); (case a1z11 => exact ⟨rfl, le_of_ble rfl, rfl, le_of_ble rfl⟩); (case hkz11 => exact ⟨rfl, rfl⟩)); intro _ _ _ _ _ _ _ l1; (try k_lt l1); revert l1; intro _ l2; (try k_lt2 l2); revert l2; intro _; (try k_sweep))))
  (k_with "call ref" => ((k_here; (with_reducible show wpAny _ _ (call (Value.ref 376) _) _ _ _); k_dflt (refine' use_add ?Wz12 ?Bz12 ?Fz12 ?Nz12 ?hkz12 ?a1z12 ?Uz12 ?m1z12 ?m2z12 ?hnez12 ?hdz12 ?loz12 ?hTz12 ?hn0z12 ?hnz12 ?_; (case Fz12 => k_asm); (case Nz12 => k_asm); (case Wz12 => assumption); (case Bz12 => assumption); (case m1z12 => k_mem); (case m2z12 => k_mem); (case Uz12 => k_updF); (case a1z12 => exact ⟨rfl, le_of_ble rfl, rfl, le_of_ble rfl⟩); (case hkz12 => exact ⟨rfl, rfl⟩); (case hnez12 => exact ⟨by assumption, by assumption, by assumption⟩); (case hdz12 => assumption); (case loz12 => assumption); (case hTz12 => assumption); (case hn0z12 => omega); (case hnz12 => omega)); intro _ _ _ _ _ _ _ _ _ _ _ _ _ N'; (try dsimp only at N'); revert N'; intro _ _ _ ne'; (have nA' := ne'); (try k_sweep))))
  (k_with "Exists" => ((k_here; (refine made_any (by k_asm) (by k_asm) (Top.nolimit (by k_asm)) (by rfl) (of_decide_eq_true (by rfl)) ?_); intro _ _ _ _ l1; (try k_lt l1); revert l1; intro _ _ _)))
  (k_with "subscriptTail Name Call ref int" => ((k_here; (with_reducible show wpAny _ _ (subscriptTail _ _ (Value.ref _) (Value.int _ _)) _ _ _); k_dflt ((with_unfolding_all refine' item3 ?k1z14 ?k2z14 ?k3z14 ?_ ?k6z14); (case k1z14 => exact News.isList (by k_asm) (by k_mem)); (case k2z14 => assumption); (case k3z14 => assumption); (case k6z14 => with_unfolding_all rfl)); intro _ _)))
  trivial
set_option maxRecDepth 100000
set_option maxHeartbeats 8000000
theorem turn_holds_ok {P C : Addr} {spot left : Int} {k1 k2 : Tok} {nn : Nat} {ps : Array Value} {vs : List Value} {ns : List Int} {Y : Led} (Cc : Cx w p loose mean mg mb base outer s.heap) (D : KtsDicts (frs outer) s.heap)
    (hl : LedOk base outer s.heap ((P, penO C spot left k1 k2 nn) :: (504, tabObj ps) :: Y)) (hTS : TabSt Y 326 22 turnQual ps) (hC : s.heap.IsList C vs.toArray) (hCn : C ∉ ((P, penO C spot left k1 k2 nn) :: (504, tabObj ps) :: Y).map (·.1)) (hne : P ≠ 504) (hY : ∀ q ∈ Y, q.1 ≠ P ∧ q.1 ≠ 504)
    (hI : IntsAre vs ns) (hlen : ns.length ≤ 63) (hs0 : 0 ≤ spot) (hs1 : spot ≤ 70000) (hl0 : 0 ≤ left) :
    wpAny (model PW w) (kA 505 4400 gd outer) (call (.ref 509) [.ref P]) (OkS outer s [P, 504] (HoldsPost P C 504 spot 326 22 turnQual Y)) Never s := by
  refine wpAny_call ?_
  have W' := Cc.W
  replace hne := neN hne
  k_dflt (refine' enterC (binds := [(("pen" : Str), .ref P)]) (led := (P, penO C spot left k1 k2 nn) :: (504, tabObj ps) :: Y) Cc hl ?k6 ?k7 ?k8 ?k9 ?kB ?kD ?_ ?c2 ?c3 ?c4; (case k6 => k_is); (case k7 => k_is); (case k8 => decide); (case k9 => exact BindsTo.of_eq rfl); (case kB => exact rfl); (case kD => decide +kernel); (case c2 => exact rfl); (case c3 => exact rfl); (case c4 => exact rfl))
  intro g L' h' tk' cells' G F' N' Y' l1 B' X' T'
  obtain ⟨oc1, oc2, hE', dc1, dc2⟩ := CellsAre.two Y'; subst hE'; clear Y'
  have yP : ∀ q ∈ Y, q.1 ≠ P := fun q hq => (hY q hq).1
  have yT : ∀ q ∈ Y, q.1 ≠ 504 := fun q hq => (hY q hq).2
  have yl : ∀ q ∈ Y, q.1 < L' := fun q hq => l1 q (.tail _ (.tail _ hq))
  have yc1 : ∀ q ∈ Y, q.1 ≠ L' + 1 := fun q hq => Nat.ne_of_lt (Nat.lt_succ_of_lt (yl q hq))
  have yc2 : ∀ q ∈ Y, q.1 ≠ L' + 1 + 1 := fun q hq => Nat.ne_of_lt (Nat.lt_succ_of_lt (Nat.lt_succ_of_lt (yl q hq)))
  k_lt l1
  simp only [List.cons_append, List.nil_append] at N'
  have hC' : g.IsList C vs.toArray := isList_ground G hC hCn
  have hCP : C ≠ P := fun z => hCn (by rw [z]; exact .head _)
  (try dsimp only); (try k_fold)
  repeat' ((fail_if_success (with_reducible show wpAny _ _ (execs (Stmt.Assign [Expr.Tuple _ _ _] _ _ :: _) _) _ _ _)); first | (k_unfold; (try dsimp only)) | walk1 | (dsimp only; walk1) | fail "no step")
  rename_i S dS k3 k4 T T2 oT _ _ neS n1 n2 n3 hdT loT _ ocs F N dcs
  have clr0 : Clr P S dS T P (L' + 1) (L' + 1 + 1) 504 Y := ⟨yP, fun q hq => (neS q (.tail _ (.tail _ (.tail _ (.tail _ hq))))).1, fun q hq => (neS q (.tail _ (.tail _ (.tail _ (.tail _ hq))))).2.1, fun q hq => (neS q (.tail _ (.tail _ (.tail _ (.tail _ hq))))).2.2, yP, yc1, yc2, yT⟩
  have yS := clr0.S
  have ydS := clr0.dS
  have yTT := clr0.T
  have hTb0 : Tb [] 0 := tb_nil
  (try dsimp only); (try k_fold)
  refine' join_off (P := P) (left := left) (k1 := k1) (k2 := k2) (n := nn) (spot := spot) (C := C) F N ?U ?hA ?hB
  case U => k_updF
  case hA =>
    repeat' (first | (k_end; exact off_end (by assumption) (by assumption) (fun q hq => by repeat (first | exact hq | refine List.mem_cons_of_mem _ ?_)) (by omega) (by omega) (offs _) (by omega) (by omega) (by omega)) | (k_unfold; (try dsimp only)) | walk1 | (dsimp only; walk1) | fail "no step")
    all_goals w_report
  case hB =>
    clear F N
    intro qa kqa o ko sp1 lf1 nn1 k11 k12 h1 tk1 F N b1 b2 b3 b4 b5 b6
    (try dsimp only at N); (try dsimp only); (try k_fold)
    refine' join_one F N ?hC ?hD
    case hC =>
      repeat' (first | (k_end; exact one_end (by assumption) (by assumption) (fun q hq => by repeat (first | exact hq | refine List.mem_cons_of_mem _ ?_)) (by first | exact tdue_one (by assumption) | exact tdue_none (by assumption) (by assumption)) (by omega) (by omega)) | (k_unfold; (try dsimp only)) | walk1 | (dsimp only; walk1) | fail "no step")
    case hD =>
      clear F N
      intro na kna dv1 h2 tk2 F N ht e1 e2
      (try dsimp only at N); (try dsimp only); (try k_fold)
      repeat' ((fail_if_success (with_reducible show wpAny _ _ (execs (Stmt.If _ _ _ _ :: _) _) _ _ _)); first | (k_unfold; (try dsimp only)) | walk1 | (dsimp only; walk1) | fail "no step")
      (try dsimp only); (try k_fold)
      rename_i way kw sp2 lf2 nn2 k21 k22 _ _ q1 q2 q3 q4 q5 _ F N
      refine' join_turn (h₀ := g) (L := L') (P := P) (C := C) (S := S) (dS := dS) (T := T) (T2 := T2) (c1 := L' + 1) (c2 := L' + 1 + 1) (PT := 504) (o1 := oc2) (o2 := ocs) (oPT := tabObj ps) (k3 := k3) (k4 := k4) (spot := spot) (way := way) (kw := kw) (Z := Y) ?hE ?hG
      case hE =>
        repeat' ((fail_if_success (k_end; (try dsimp only); (with_reducible show TurnMid _ _ _ _ _ _ _ _ _ _ _ _ _ _ _ _ _ _ _ _ _ _ _ _ _))); first | (k_unfold; (try dsimp only)) | walk1 | (dsimp only; walk1) | fail "no step")
        all_goals (try dsimp only)
        · rename_i x dx ka kb kc kd _ _ lx lx2 _ _ _ _ _ _ F N
          exact turn_end (due := some 0) (Z' := (x, instObj 289 dx) :: (dx, refD w ka kb kc kd 900 0) :: Y) F N (by simp only [List.forall_mem_cons]; exact ⟨by k_mem, by k_mem, by k_mem, by k_mem, by k_mem, by k_mem, by k_mem, by k_mem, by k_mem, fun q hq => by repeat (first | exact hq | refine List.mem_cons_of_mem _ ?_)⟩) rfl rfl rfl (.inr (.inl ⟨_, rfl, ⟨x, dx, ka, kb, kc, kd, rfl, .head _, .tail _ (.head _)⟩, rfl⟩)) (.inl ⟨0, _, rfl, rfl⟩) hdT hTb0 (by omega) (by omega) (by omega) (by omega) (fun q hq => .tail _ (.tail _ hq)) (clr0.lt2 lx lx2)
        · rename_i x1 dx1 td pd ka kb kc kd _ _ ld ld2 _ _ _ _ _ x2 dx2 o2 _ _ ln ln2 l3 _ _ d3 t3 sp3 lf3 nn3 k31 k32 _ _ q31 q32 q33 q34 q35 r hr _ _ _ _ _ _ F N
          have tv : TurnV ((x2, instObj 218 dx2) :: (dx2, o2) :: (x1, instObj 155 dx1) :: (dx1, decD w ka kb kc kd td pd) :: Y) r none := by
            rcases hr with rfl | rfl | rfl
            · exact .inr (.inl ⟨_, rfl, rfl⟩)
            · exact .inr (.inr (.inl ⟨x1, dx1, _, rfl, .tail _ (.tail _ (.head _)), .tail _ (.tail _ (.tail _ (.head _))), rfl⟩))
            · exact .inr (.inr (.inr ⟨x2, dx2, _, rfl, .head _, .tail _ (.head _), rfl⟩))
          exact turn_end (due := none) (Z' := (x2, instObj 218 dx2) :: (dx2, o2) :: (x1, instObj 155 dx1) :: (dx1, decD w ka kb kc kd td pd) :: Y) F N (by simp only [List.forall_mem_cons]; exact ⟨by k_mem, by k_mem, by k_mem, by k_mem, by k_mem, by k_mem, by k_mem, by k_mem, by k_mem, by k_mem, by k_mem, fun q hq => by repeat (first | exact hq | refine List.mem_cons_of_mem _ ?_)⟩) rfl rfl rfl (.inr (.inr (.inl ⟨_, rfl, tv⟩))) (.inr ⟨rfl, _, rfl⟩) hdT hTb0 (by omega) (by omega) (by omega) (by omega) (fun q hq => .tail _ (.tail _ (.tail _ (.tail _ hq)))) ((clr0.lt2 ld ld2).lt2 ln.2.2 ln2)
        · rename_i t R dR nt k0 ka kb kc kd oT1 _ _ hd1 hTb1 _ F N
          exact turn_end (due := turnQ na) (Z' := (t, tupO #[.int 0 k0, .int na kna] nt) :: (R, instObj 289 dR) :: (dR, refD w ka kb kc kd (0 + 1) 0) :: Y) F N (by simp only [List.forall_mem_cons]; exact ⟨by k_mem, by k_mem, by k_mem, by k_mem, by k_mem, by k_mem, by k_mem, by k_mem, by k_mem, by k_mem, fun q hq => by repeat (first | exact hq | refine List.mem_cons_of_mem _ ?_)⟩) rfl rfl rfl (.inr (.inr (.inr ⟨_, 0 + 1, t, k0, nt, .int na kna, rfl, ⟨R, dR, ka, kb, kc, kd, rfl, .tail _ (.head _), .tail _ (.tail _ (.head _))⟩, by rw [tb_at hTb0, if_pos rfl], .head _, .inl ⟨na, kna, rfl, e1, e2, rfl⟩⟩))) ht hd1 hTb1 (by omega) (by omega) (by omega) (by omega) (fun q hq => .tail _ (.tail _ (.tail _ hq))) (Clr.app (A := [(t, _), (R, _), (dR, _)]) clr0 (by simp only [List.forall_mem_cons]; exact ⟨fun x hx => (nA' x hx).1, fun x hx => (nA' x hx).2.1, fun x hx => (nA' x hx).2.2, fun _ hq => nomatch hq⟩) (by k_mem) (by k_mem) (by k_mem) (by k_mem) (by k_mem) (by k_mem) (by k_mem) (by k_mem))
        · exact turn_end (due := turnQ na) (Z' := Y) (by assumption) (by assumption) (by simp only [List.forall_mem_cons]; exact ⟨by k_mem, by k_mem, by k_mem, by k_mem, by k_mem, by k_mem, by k_mem, fun q hq => by repeat (first | exact hq | refine List.mem_cons_of_mem _ ?_)⟩) rfl rfl rfl (.inr (.inr (.inl ⟨_, rfl, .inl ⟨na, kna, rfl, e1, e2, rfl⟩⟩))) ht hdT hTb0 (by omega) (by omega) (by omega) (by omega) (fun _ hq => hq) clr0
      case hG =>
        clear ht N F hdT hTb0
        intro m' one dv due sp5 lf5 k51 k52 nn5 oT5 kvs5 m5 Z3 h5 tk5 F N hr ht hd hTb hn x1 x2 x3 subZ clr3
        obtain ⟨zP, zS, zdS, zT, -, zc1, zc2, zPT⟩ := id clr3
        (try dsimp only); (try k_fold)
        refine' join_fld (c1 := L' + 1) (PT := 504) (o1 := oc2) (one := one) (way := way) F N ?U ?hI ?hJ
        case U => k_updF
        case hI =>
          repeat' (first | (k_end; exact fld_end (by assumption) (by assumption) (fun q hq => by repeat (first | exact hq | refine List.mem_cons_of_mem _ ?_)) (by assumption) (by assumption) (by assumption) rfl (by first | k_ne | omega) (by first | exact .inl ⟨by assumption, rfl⟩ | exact .inr ⟨by assumption, rfl⟩)) | (k_unfold; (try dsimp only)) | walk1 | (dsimp only; walk1) | fail "no step")
          all_goals w_report
        case hJ =>
          clear F N
          intro fd ofd fkvs ocf cv h6 tk6 F N dcf hfd loF hcv hfn hw
          obtain ⟨due2, hr2, hdue2⟩ : ∃ due2, RotV w Z3 kvs5 cv due2 ∧ ((way = 3 ∧ due2 = some 0) ∨ (¬way = 3 ∧ due2 = due)) := by
            rcases hw with ⟨e, rfl⟩ | ⟨e, rfl⟩
            · exact ⟨_, .inl ⟨rfl, rfl⟩, .inl ⟨e, rfl⟩⟩
            · exact ⟨_, hr, .inr ⟨e, rfl⟩⟩
          clear hw hr
          (try dsimp only at N); (try dsimp only); (try k_fold)
          repeat' ((fail_if_success (with_reducible show wpAny _ _ (eval (Expr.Lambda _ _ _ _) _) _ _ _)); first | (k_unfold; (try dsimp only)) | walk1 | (dsimp only; walk1) | fail "no step")
          refine' use_lam (clos := [("shelf", L' + 1 + 1), ("fields", L' + 1)]) (qual := turnQual) (P := 504) (c := 508) (ps := ps) (Z := Y) ?hdef ?hq F N T' (codeHd_of X' (hd_turn _)) ?hcd ?U ?S ?subZ ?hcl ?_
          case hdef => exact rfl
          case hq => exact rfl
          case hcd => exact rfl
          case U => k_updF
          case S => exact hTS
          case subZ => exact fun q hq => (fun (hz : q ∈ Z3) => by repeat (first | exact hz | refine List.mem_cons_of_mem _ ?_)) (subZ q hq)
          case hcl => exact rfl
          intro f c' oc vsl tl pmv ctv ps2 h6 tk6 F6 N6 hps hoc hov lf2 lc
          have lc2 : (c', oc) ∈ Y ∨ c' ≠ P ∧ c' ≠ 504 ∧ ∀ q ∈ Y, q.1 ≠ c' := lc.imp id fun z => ⟨Nat.ne_of_gt (z (P, penO C sp5 lf5 k51 k52 nn5) (by k_mem)), Nat.ne_of_gt (z (504, tabObj ps) (by k_mem)), fun q hq => Nat.ne_of_lt (z q ((fun (hz : q ∈ Z3) => by repeat (first | exact hz | refine List.mem_cons_of_mem _ ?_)) (subZ q hq)))⟩
          clear lc lf2 F N
          (try dsimp only at N6); (try dsimp only); (try k_fold)
          repeat' ((fail_if_success (with_reducible show wpAny _ _ (call (Value.ref 483) _) _ _ _)); first | (k_unfold; (try dsimp only)) | walk1 | (dsimp only; walk1) | fail "no step")
          have Dg := dicts_ground hl G D
          refine use_okS (mt := []) (call_le (heard_ok (Post := fun nw r => ∃ q, due2 = some q ∧ ∃ k, r = .int q k) (Dn := due2 = none) (cx_of W' B' F6 ⟨rfl, rfl⟩) (dicts_cons ⟨rfl, rfl⟩ Dg F6) (FnAt.of N6 (.head _)) (lam_turn (f := f) (c' := c') (cf := L' + 1) (cs := L' + 1 + 1) (S := S) (dS := dS) (T := T) (T2 := T2) (fd := fd) (k3 := k3) (k4 := k4) (oc := oc) (ocf := ocf) (ocs := ocs) (oT := oT5) (ofd := ofd) (Z := Z3) (qual := turnQual) (pm := pmv) (ctv := ctv) (led_of ⟨rfl, rfl⟩ B' F6 N6 (by simp only [List.forall_mem_cons]; exact ⟨by k_mem, by k_mem, by k_mem, by k_mem, by k_mem, by k_mem, by k_mem, by k_mem, fun q hq => by repeat (first | exact hq | refine List.mem_cons_of_mem _ ?_)⟩)) hoc hov dcf dcs hd loT hTb (by omega) hfd loF hcv hr2)) rfl (le_of_ble rfl) rfl (le_of_ble rfl)) W' B' F6 N6 ⟨rfl, rfl⟩ Dg (fun q hq => ⟨hq, fun h => nomatch h⟩) (fun a ha => nomatch ha) ?_
          intro r7 h7 g7 tk7 nw7 Tn F7 N7 hdis B7 X7 T7 D7 hp
          clear F6 N6 hdis X' T' B'
          (try dsimp only); (try k_fold)
          rcases hp with ⟨q, hq, kq, rfl⟩ | ⟨hDn, rfl, kk, rfl⟩
          · rcases hdue2 with ⟨hw, hd2⟩ | ⟨hw, hd2⟩
            · rw [hd2] at hq
              cases hq
              subst hw
              repeat' ((fail_if_success (k_end; (try dsimp only); (with_reducible show OkS _ _ _ _ _ _))); first | (k_unfold; (try dsimp only)) | walk1 | (dsimp only; walk1) | fail "no step")
              all_goals (try exact absurd (by assumption) hw)
              all_goals (try dsimp only)
              refine holds_endb (sp := sp5) (lf := lf5) (k1 := k51) (k2 := k52) (n := nn5) (rest := (f, _) :: _) ?_ G hl Tn (by assumption) N7 (fun q hq => List.mem_append_right _ hq) ?_ ?_ ?_ ?_ hps hoc hov lc2 (by omega) (by omega) (by omega)
              · first | rfl | exact beq_self_eq_true _ | simp
              · k_mem
              · k_mem
              · k_mem
              · exact fun q hq => (fun (hz : q ∈ Z3) => by repeat (first | exact hz | refine List.mem_cons_of_mem _ ?_)) (subZ q hq)
            · rw [hd2] at hq
              rcases ht with ⟨d, k, e, rfl⟩ | ⟨e, _⟩
              · rw [e] at hq
                cases hq
                repeat' ((fail_if_success (k_end; (try dsimp only); (with_reducible show OkS _ _ _ _ _ _))); first | (k_unfold; (try dsimp only)) | walk1 | (dsimp only; walk1) | fail "no step")
                all_goals (try exact absurd (by assumption) hw)
                all_goals (try dsimp only)
                refine holds_endb (sp := sp5) (lf := lf5) (k1 := k51) (k2 := k52) (n := nn5) (rest := (f, _) :: _) ?_ G hl Tn (by assumption) N7 (fun q hq => List.mem_append_right _ hq) ?_ ?_ ?_ ?_ hps hoc hov lc2 (by omega) (by omega) (by omega)
                · first | rfl | exact beq_self_eq_true _ | simp
                · k_mem
                · k_mem
                · k_mem
                · exact fun q hq => (fun (hz : q ∈ Z3) => by repeat (first | exact hz | refine List.mem_cons_of_mem _ ?_)) (subZ q hq)
              · rw [e] at hq; cases hq
          · rcases hdue2 with ⟨hw, hd2⟩ | ⟨hw, hd2⟩
            · rw [hd2] at hDn; cases hDn
            · rw [hd2] at hDn
              rcases ht with ⟨d, k, e, rfl⟩ | ⟨e, k, rfl⟩
              · rw [e] at hDn; cases hDn
              · clear hDn
                repeat' ((fail_if_success (k_end; (try dsimp only); (with_reducible show OkS _ _ _ _ _ _))); first | (k_unfold; (try dsimp only)) | walk1 | (dsimp only; walk1) | fail "no step")
                all_goals (try exact absurd (by assumption) hw)
                all_goals (try dsimp only)
                refine holds_endb (sp := sp5) (lf := lf5) (k1 := k51) (k2 := k52) (n := nn5) (rest := (f, _) :: _) ?_ G hl Tn (by assumption) N7 (fun q hq => hq) ?_ ?_ ?_ ?_ hps hoc hov lc2 (by omega) (by omega) (by omega)
                · first | rfl | exact beq_self_eq_true _ | simp
                · k_mem
                · k_mem
                · k_mem
                · exact fun q hq => (fun (hz : q ∈ Z3) => by repeat (first | exact hz | refine List.mem_cons_of_mem _ ?_)) (subZ q hq)
end
end
section
theorem rg_BoxH : True := by
  k_with_none
  (k_with "omA" => (first | (with_reducible (first | exact And.left ‹_› | exact And.left (And.right ‹_›) | exact And.left (And.right (And.right ‹_›)) | exact And.left (And.right (And.right (And.right ‹_›))) | exact And.left (And.right (And.right (And.right (And.right ‹_›)))) | exact And.left (And.right (And.right (And.right (And.right (And.right ‹_›))))) | exact And.left (And.right (And.right (And.right (And.right (And.right (And.right ‹_›)))))) | exact And.left (And.right (And.right (And.right (And.right (And.right (And.right (And.right ‹_›))))))) | exact And.left (And.right (And.right (And.right (And.right (And.right (And.right (And.right (And.right ‹_›)))))))) | exact And.left (And.right (And.right (And.right (And.right (And.right (And.right (And.right (And.right (And.right ‹_›))))))))) | exact And.left (And.right (And.right (And.right (And.right (And.right (And.right (And.right (And.right (And.right (And.right ‹_›)))))))))) | exact And.left (And.right (And.right (And.right (And.right (And.right (And.right (And.right (And.right (And.right (And.right (And.right ‹_›))))))))))) | exact And.left (And.right (And.right (And.right (And.right (And.right (And.right (And.right (And.right (And.right (And.right (And.right (And.right ‹_›)))))))))))) | exact And.left (And.right (And.right (And.right (And.right (And.right (And.right (And.right (And.right (And.right (And.right (And.right (And.right (And.right ‹_›))))))))))))) | exact And.left (And.right (And.right (And.right (And.right (And.right (And.right (And.right (And.right (And.right (And.right (And.right (And.right (And.right (And.right ‹_›)))))))))))))) | exact And.left (And.right (And.right (And.right (And.right (And.right (And.right (And.right (And.right (And.right (And.right (And.right (And.right (And.right (And.right (And.right ‹_›))))))))))))))) | exact And.left (And.right (And.right (And.right (And.right (And.right (And.right (And.right (And.right (And.right (And.right (And.right (And.right (And.right (And.right (And.right (And.right ‹_›)))))))))))))))) | exact And.right ‹_› | exact And.right (And.right ‹_›) | exact And.right (And.right (And.right ‹_›)) | exact And.right (And.right (And.right (And.right ‹_›))) | exact And.right (And.right (And.right (And.right (And.right ‹_›)))))) | fail))
  (k_with "omC" => (first | decide | fail))
  (k_with "omU" => (first | (k_extra "omC") | (with_reducible (first | exact o_le ‹_› (by decide) | exact o_lel ‹_› (by decide) | exact o_mul ‹_› (by decide) (by decide) | exact o_mull ‹_› (by decide) (by decide))) | ((with_reducible refine o_chl ‹_› ?_); k_extra "omU") | ((with_reducible refine o_addc ?_); k_extra "omU") | ((with_reducible refine o_subc ?_); k_extra "omU") | ((with_reducible refine o_subv ‹_› ?_); k_extra "omU") | ((with_reducible refine o_add2 ‹_› ?_); k_extra "omU") | ((with_reducible refine o_add2l ‹_› ?_); k_extra "omU") | ((with_reducible refine o_addl ?_); k_extra "omU") | ((with_reducible refine o_addm ‹_› (by decide) ?_); k_extra "omU") | fail))
  (k_with "omL" => (first | (k_extra "omC") | (with_reducible (first | exact o_ge ‹_› (by decide) | exact o_gel ‹_› (by decide) | exact o_gmul ‹_› (by decide) (by decide))) | ((with_reducible refine o_gaddc ?_); k_extra "omL") | ((with_reducible refine o_gsubc ?_); k_extra "omL") | ((with_reducible refine o_gsubv ‹_› ?_); k_extra "omL") | ((with_reducible refine o_gsubvl ‹_› ?_); k_extra "omL") | ((with_reducible refine o_gadd2 ‹_› ?_); k_extra "omL") | ((with_reducible refine o_gaddl ?_); k_extra "omL") | ((with_reducible refine o_gaddm ‹_› (by decide) ?_); k_extra "omL") | fail))
  (k_with "omR" => (first | (with_reducible (first | exact o_self (by decide))) | ((with_reducible refine o_ch ‹_› ?_); k_extra "omR") | ((with_reducible refine o_addch ?_); k_extra "omR") | fail))
  (k_with "omZ" => (first | (k_extra "omR") | (k_extra "omU") | (k_extra "omL") | fail))
  (k_with "omX" => (first | decide | (k_extra "omZ") | (with_reducible (first | exact Int.le_refl _ | exact Nat.le_refl _ | exact o_nle ‹_› (by decide) | exact o_nlt ‹_› (by decide) | exact o_nlel ‹_› (by decide))) | ((with_reducible refine o_ltc ?_); k_extra "omZ") | ((with_reducible refine o_gtc ?_); k_extra "omZ") | (with_reducible (first | exact o_iffn ‹_› ‹_› | exact o_neql ‹_› (by decide) | exact o_neqi ‹_› (by decide))) | ((with_reducible show _ < _); (first | (with_reducible exact Iff.mp ‹_› ‹_›) | k_extra "omA")) | ((repeat (rename _ ≠ _ => hz; clear hz)); (repeat (rename _ ≠ _ ∧ _ => hz; clear hz)); omega +splitDisjunctions) | fail))
  (k_with "omN" => (first | (with_reducible (first | exact o_n1 | exact o_n1' | exact o_ne ‹_› | exact o_ne' ‹_› | exact o_lt ‹_› | exact o_gt ‹_› | exact o_ne (by k_extra "omA") | exact o_ne' (by k_extra "omA") | exact o_lt (by k_extra "omA") | exact o_gt (by k_extra "omA") | exact o_lts1 (by k_extra "omA") | exact o_lts1' (by k_extra "omA") | exact o_lts2 (by k_extra "omA") | exact o_lts2' (by k_extra "omA") | exact o_gt2 ‹_› (by k_extra "omA") | exact o_lt2 ‹_› (by k_extra "omA"))) | fail))
  (k_with "om" => (first | with_reducible assumption | ((first | (with_reducible show _ ≤ _) | (with_reducible show _ < _)); k_extra "omX") | ((with_reducible show _ = _ → False); k_extra "omN") | fail))
  trivial
open PySem PySem.W PyProof.Rows PySem.Calls PyProof.Rows.LCg
theorem reg_boxh : PySem.Challenge.rw_nn0125_01 = PySem.Challenge.rw_nn0125_01 ∧ KX = KX := by k_fill; exact ⟨rfl, rfl⟩
theorem hd_box (P : Params) : hdIn (KX P) 501 497 = true := by kernel_rfl
abbrev boxQual : Str := PySem.Str.ofString "_law_box_holds.<locals>.<lambda>"
section
theorem rg_BoxH5 : True := by
  (k_with "exec For Name Call cons nil" => ((k_here; (rename Fr _ _ _ _ => lF'); (with_unfolding_all refine' For_invVF lF' ?k1z1 ?k2z1 ?_; (case k1z1 => exact rfl); (case k2z1 => exact rfl); k_whole))))
  (k_with "exec For Name Subscript cons nil" => ((k_here; (rename Fr _ _ _ _ => lF'); (with_unfolding_all refine' For_invVF lF' ?k1z2 ?k2z2 ?_; (case k1z2 => exact rfl); (case k2z2 => exact rfl); k_whole))))
  trivial
local macro_rules | `(tactic| k_lt $h:ident) => `(tactic| replace $h := allLt_of $h)
variable {w : World} {p : Program} {loose : List Str} {mean : ExcName → Option Value} {mg mb : Str → Option Value} {base : Heap} {outer : List Env} {s : Shared} {dp un : Nat} {gd : Option (List Code)}
theorem rg_BoxH8 : True := by
  (k_with "k_ne" => (((try dsimp only); k_dflt (first | with_reducible assumption | with_reducible exact Ne.symm (by with_reducible assumption) | (refine' ne_all ?hz3 ?mz3; (case hz3 => with_reducible assumption); (case mz3 => k_mem)) | (refine' ne_all' ?hz3 ?mz3; (case hz3 => with_reducible assumption); (case mz3 => k_mem)) | (refine' ne_m1 ?hz3 ?mz3; (case hz3 => with_reducible assumption); (case mz3 => k_mem)) | (refine' ne_m2 ?hz3 ?mz3; (case hz3 => with_reducible assumption); (case mz3 => k_mem)) | (refine' ne_m3 ?hz3 ?mz3; (case hz3 => with_reducible assumption); (case mz3 => k_mem)) | (refine' ne_m1' ?hz3 ?mz3; (case hz3 => with_reducible assumption); (case mz3 => k_mem)) | (refine' ne_m2' ?hz3 ?mz3; (case hz3 => with_reducible assumption); (case mz3 => k_mem)) | (refine' ne_m3' ?hz3 ?mz3; (case hz3 => with_reducible assumption); (case mz3 => k_mem)) | (refine' ne_l ?hz3; with_reducible assumption) | (refine' ne_g ?hz3; with_reducible assumption) | (refine' ne_all2 ?gz3 ?hz3 ?mz3; (case gz3 => with_reducible assumption); (case hz3 => with_reducible assumption); (case mz3 => k_mem)) | (refine' ne_all2' ?gz3 ?hz3 ?mz3; (case gz3 => with_reducible assumption); (case hz3 => with_reducible assumption); (case mz3 => k_mem)) | (refine' ne_s1 ?hz3 ?mz3; (case hz3 => with_reducible assumption); (case mz3 => k_mem)) | (refine' ne_s2 ?hz3 ?mz3; (case hz3 => with_reducible assumption); (case mz3 => k_mem)) | (refine' ne_s1' ?hz3 ?mz3; (case hz3 => with_reducible assumption); (case mz3 => k_mem)) | (refine' ne_s2' ?hz3 ?mz3; (case hz3 => with_reducible assumption); (case mz3 => k_mem)) | exact ne_ss | exact ne_ss' | ((try simp only [AllLt, and_true] at *); refine neN ?_; omega)))))
  (k_with "k_all" => (with_reducible assumption))
  (k_with "k_mem" => (((repeat (first | exact List.mem_cons_self | refine List.mem_cons_of_mem _ ?_)); (try (with_reducible_and_instances assumption)); done)))
  (k_with "call ref" => ((k_here; (with_reducible show wpAny _ _ (call (Value.ref 289) _) _ _ _); k_dflt (refine' use_ref ?Wz6 ?Bz6 ?Fz6 ?Xz6 ?Nz6 ?hkz6 ?a1z6 ?_; (case Fz6 => k_asm); (case Xz6 => k_asm); (case Nz6 => k_asm); (case Wz6 => assumption); (case Bz6 => assumption); (case a1z6 => exact ⟨rfl, le_of_ble rfl, rfl, le_of_ble rfl⟩); (case hkz6 => exact ⟨rfl, rfl⟩)); intro _ _ _ _ _ _ _ _ _ _ l1; (try k_lt l1); revert l1; intro _ l2; (try k_lt2 l2); revert l2; intro _; (try k_sweep))))
  (k_with "call ref" => ((k_here; (with_reducible show wpAny _ _ (call (Value.ref 424) _) _ _ _); k_dflt (refine' use_page ?Wz7 ?Bz7 ?Fz7 ?Xz7 ?Nz7 ?hkz7 ?a1z7 ?_; (case Fz7 => k_asm); (case Xz7 => k_asm); (case Nz7 => k_asm); (case Wz7 => assumption); (case Bz7 => assumption); (case a1z7 => exact ⟨rfl, le_of_ble rfl, rfl, le_of_ble rfl⟩); (case hkz7 => exact ⟨rfl, rfl⟩)); intro _ _ _ _ _ _ _ _ l1; (try k_lt l1); revert l1; intro _ l2; (try k_lt2 l2); revert l2; intro _; (try k_sweep))))
  (k_with "call ref" => ((k_here; (with_reducible show wpAny _ _ (call (Value.ref 405) _) _ _ _); k_dflt (refine' use_shelf ?Wz8 ?Bz8 ?Fz8 ?Xz8 ?Nz8 ?hkz8 ?a1z8 ?_; (case Fz8 => k_asm); (case Xz8 => k_asm); (case Nz8 => k_asm); (case Wz8 => assumption); (case Bz8 => assumption); (case a1z8 => exact ⟨rfl, le_of_ble rfl, rfl, le_of_ble rfl⟩); (case hkz8 => exact ⟨rfl, rfl⟩)); intro _ _ _ _ _ _ _ _ _ _ _ _ _ _ _ _ _; (try k_sweep))))
  (k_with "call ref" => ((k_here; (with_reducible show wpAny _ _ (call (Value.ref 457) _) _ _ _); k_dflt (refine' use_draw ?Wz9 ?Bz9 ?Fz9 ?Nz9 ?hkz9 ?a1z9 ?Uz9 ?hCz9 ?hCPz9 ?hIz9 ?hlz9 ?hs0z9 ?hs1z9 ?hl0z9 ?hm0z9 ?hm1z9 ?_; (case Fz9 => k_asm); (case Nz9 => k_asm); (case Wz9 => assumption); (case Bz9 => assumption); (case Uz9 => k_updF); (case a1z9 => exact ⟨rfl, le_of_ble rfl, rfl, le_of_ble rfl⟩); (case hkz9 => exact ⟨rfl, rfl⟩); (case hCz9 => first | assumption | exact stays_list (Fr.keep (by assumption)) (by assumption)); (case hCPz9 => assumption); (case hIz9 => assumption); (case hlz9 => assumption); (case hs0z9 => omega); (case hs1z9 => omega); (case hl0z9 => omega); (case hm0z9 => first | decide | omega); (case hm1z9 => first | decide | omega)); intro _ _ _ _ _ _ _ _ _ _ N'; (try dsimp only at N'); revert N'; intro _ _ _ _ _ _; (try k_sweep))))
  (k_with "setItem ref str" => ((k_here; k_dflt (refine' kda_set (knd := PySem.strKind PW _) ?Fz10 ?Nz10 ?Uz10 ?dz10 (strKind_is _ _ _ _) ?zz10 ?_; (case Fz10 => k_asm); (case Nz10 => k_asm); (case Uz10 => k_updF); (case dz10 => assumption); (case zz10 => (rw [sizeLine_eq]; exact Nat.le_of_ble_eq_true (by with_unfolding_all rfl)))); intro _ _ _ N'; (try dsimp only at N'); revert N'; intro _ _)))
  (k_with "compareOp Eq ref str" => ((k_here; k_dflt (refine' eq_list_str ?Nz11 ?mz11 ?uz11 ?_; (case Nz11 => k_asm); (case mz11 => k_mem); (case uz11 => exact le_of_ble rfl); k_whole))))
  (k_with "compareOp Eq" => ((k_here; (with_reducible show wpAny _ _ (compareOp CmpOp.Eq (Value.ref _) (Value.str _ _)) _ _ _); k_dflt (refine' eq_list_str ?Nz12 ?mz12 ?uz12 ?_; (case Nz12 => k_asm); (case mz12 => k_mem); (case uz12 => exact le_of_ble rfl); k_whole))))
  trivial
set_option maxRecDepth 100000
set_option maxHeartbeats 8000000
theorem box_holds_ok {P C : Addr} {spot left : Int} {k1 k2 : Tok} {nn : Nat} {ps : Array Value} {vs : List Value} {ns : List Int} {Y : Led} (Cc : Cx w p loose mean mg mb base outer s.heap) (D : KtsDicts (frs outer) s.heap)
    (hl : LedOk base outer s.heap ((P, penO C spot left k1 k2 nn) :: (497, tabObj ps) :: Y)) (hTS : TabSt Y 313 39 boxQual ps) (hC : s.heap.IsList C vs.toArray) (hCn : C ∉ ((P, penO C spot left k1 k2 nn) :: (497, tabObj ps) :: Y).map (·.1)) (hne : P ≠ 497) (hY : ∀ q ∈ Y, q.1 ≠ P ∧ q.1 ≠ 497)
    (hI : IntsAre vs ns) (hlen : ns.length ≤ 63) (hs0 : 0 ≤ spot) (hs1 : spot ≤ 70000) (hl0 : 0 ≤ left) :
    wpAny (model PW w) (kA 505 4400 gd outer) (call (.ref 502) [.ref P]) (OkS outer s [P, 497] (HoldsPost P C 497 spot 313 39 boxQual Y)) Never s := by
  refine wpAny_call ?_
  have W' := Cc.W
  replace hne := neN hne
  k_dflt (refine' enterC (binds := [(("pen" : Str), .ref P)]) (led := (P, penO C spot left k1 k2 nn) :: (497, tabObj ps) :: Y) Cc hl ?k6 ?k7 ?k8 ?k9 ?kB ?kD ?_ ?c2 ?c3 ?c4; (case k6 => k_is); (case k7 => k_is); (case k8 => decide); (case k9 => exact BindsTo.of_eq rfl); (case kB => exact rfl); (case kD => decide +kernel); (case c2 => exact rfl); (case c3 => exact rfl); (case c4 => exact rfl))
  intro g L' h' tk' cells' G F' N' Y' l1 B' X' T'
  obtain ⟨oc1, oc2, hE', dc1, dc2⟩ := CellsAre.two Y'; subst hE'; clear Y'
  have yP : ∀ q ∈ Y, q.1 ≠ P := fun q hq => (hY q hq).1
  have yT : ∀ q ∈ Y, q.1 ≠ 497 := fun q hq => (hY q hq).2
  have yl : ∀ q ∈ Y, q.1 < L' := fun q hq => l1 q (.tail _ (.tail _ hq))
  have yc1 : ∀ q ∈ Y, q.1 ≠ L' + 1 := fun q hq => Nat.ne_of_lt (Nat.lt_succ_of_lt (yl q hq))
  have yc2 : ∀ q ∈ Y, q.1 ≠ L' + 1 + 1 := fun q hq => Nat.ne_of_lt (Nat.lt_succ_of_lt (Nat.lt_succ_of_lt (yl q hq)))
  k_lt l1
  simp only [List.cons_append, List.nil_append] at N'
  have hC' : g.IsList C vs.toArray := isList_ground G hC hCn
  have hCP : C ≠ P := fun z => hCn (by rw [z]; exact .head _)
  (try dsimp only); (try k_fold)
  repeat' ((fail_if_success (with_reducible show wpAny _ _ (call (Value.ref 476) _) _ _ _)); first | (k_unfold; (try dsimp only)) | walk1 | (dsimp only; walk1) | fail "no step")
  rename_i S dS k3 k4 T T2 oT _ _ neS n1 n2 n3 hdT loT fd _ ofd loF hsF fsF hiF fiF lf D0 _ lD _ _ ocs dcs _ F N
  have nP : @Ne Nat P S ∧ @Ne Nat P dS ∧ @Ne Nat P T := neS (P, penO C spot left k1 k2 nn) (.tail _ (.tail _ (.head _)))
  have ap : Apart P S dS T := ⟨nP.1, nP.2.1, nP.2.2, n1, n2, n3⟩
  have hpre : ∀ x ∈ ([(fd, ofd), (L' + 1 + 1, ocs), (L' + 1, oc2), (497, tabObj ps)] : Led), Off P S dS T x.1 := by
    simp only [List.forall_mem_cons]
    exact ⟨⟨by k_ne, by k_ne, by k_ne, by k_ne⟩, ⟨by k_ne, by k_ne, by k_ne, by k_ne⟩, ⟨by k_ne, by k_ne, by k_ne, by k_ne⟩, ⟨by k_ne, by k_ne, by k_ne, by k_ne⟩, fun _ hq => nomatch hq⟩
  have yF : ∀ q ∈ Y, q.1 < fd := fun q hq => allLt_mem lf.2.2.2.2.2.2.2 q hq
  have clr0 : Clr P S dS T fd (L' + 1) (L' + 1 + 1) 497 Y := ⟨yP, fun q hq => (neS q (.tail _ (.tail _ (.tail _ (.tail _ hq))))).1, fun q hq => (neS q (.tail _ (.tail _ (.tail _ (.tail _ hq))))).2.1, fun q hq => (neS q (.tail _ (.tail _ (.tail _ (.tail _ hq))))).2.2, fun q hq => Nat.ne_of_lt (yF q hq), yc1, yc2, yT⟩
  have N1 : News g L' _ ([(fd, ofd), (L' + 1 + 1, ocs), (L' + 1, oc2), (497, tabObj ps)] ++ (P, penO C spot left k1 k2 nn) :: (S, instObj 405 dS) :: (dS, shD w k3 k4 T T2) :: (T, oT) :: Y) := fun q hq => N q (by
    revert q
    simp only [List.cons_append, List.nil_append, List.forall_mem_cons]
    exact ⟨by k_mem, by k_mem, by k_mem, by k_mem, by k_mem, by k_mem, by k_mem, by k_mem, fun q hq => by repeat (first | exact hq | refine List.mem_cons_of_mem _ ?_)⟩)
  clear N
  refine use_lawbox (pre := [(fd, ofd), (L' + 1 + 1, ocs), (L' + 1, oc2), (497, tabObj ps)]) W' B' F N1 ⟨rfl, rfl⟩ ⟨rfl, le_of_ble rfl, rfl, le_of_ble rfl⟩ hC' ap hI hlen hdT loT tb_nil (by decide) (by decide) hs0 (by omega) hl0 (fun q hq => ⟨clr0.P q hq, clr0.S q hq, clr0.dS q hq, clr0.T q hq⟩) hpre ?_
  intro pr v dv np md sp1 lf1 nn1 k11 k12 oT1 kvs1 m1 Z1 h1 tk1 F N sub1 off1 ne1 mp hb hu hd1 hTb1 r1 r2 ext1 r3 r4 r5
  obtain ⟨va, rfl⟩ := hb.ref
  have clr1 := clr0.grow off1 ne1
  clear ne1 off1 N1
  (try dsimp only); (try k_fold)
  simp only [List.cons_append, List.nil_append] at N
  obtain ⟨zP, zS, zdS, zT, zfd, zc1, zc2, zPT⟩ := id clr1
  repeat' ((fail_if_success (with_reducible show wpAny _ _ (execs (Stmt.Assign [Expr.Name _ _] (Expr.IfExp _ _ _ _) _ :: _) _) _ _ _)); first | (k_unfold; (try dsimp only)) | walk1 | (dsimp only; walk1) | fail "no step")
  refine join_due (Z := Z1) (md := md) (by assumption) (by assumption) ?hA ?hB
  case hA =>
    rcases hu with ⟨rfl, rfl⟩ | ⟨e0, n0, a, b, c, d, t0, t1, t2, t3, rfl, rfl, me⟩
    all_goals repeat' (first | (k_end; exact due_end (by assumption) (by assumption) (by first | exact .inl ⟨rfl, _, rfl⟩ | exact .inr ⟨_, _, _, _, _, _, _, _, _, _, rfl, rfl, me⟩)) | (k_unfold; (try dsimp only)) | walk1 | (dsimp only; walk1) | fail "no step")
  case hB =>
    clear hu
    intro dv1 h' tk F N hSd
    (try dsimp only); (try k_fold)
    repeat' ((fail_if_success (with_reducible show wpAny _ _ (execs (Stmt.If _ _ _ _ :: _) _) _ _ _)); first | (k_unfold; (try dsimp only)) | walk1 | (dsimp only; walk1) | fail "no step")
    rename_i ofd1 hdf1 d2 _ sp2 lf2 nn2 k21 k22 _ _ q1 q2 q3 q4 q5 _ F N
    refine join_crop (h₀ := g) (L := L') (P := P) (C := C) (S := S) (dS := dS) (T := T) (T2 := T2) (fd := fd) (c1 := L' + 1) (c2 := L' + 1 + 1) (PT := 497) (o1 := oc2) (o2 := ocs) (oPT := tabObj ps) (k3 := k3) (k4 := k4) (spot := spot) (mv := .ref va) (md := md) (Z := Z1) ?hC ?hD
    case hC =>
      repeat' ((fail_if_success (with_reducible show wpAny _ _ (call (Value.ref 476) _) _ _ _)); (fail_if_success (with_reducible show wpAny _ _ (call (Value.ref 289) _) _ _ _)); (fail_if_success (k_end; (try dsimp only); (with_reducible show CropMid _ _ _ _ _ _ _ _ _ _ _ _ _ _ _ _ _ _ _ _ _ _ _ _ _))); first | (k_unfold; (try dsimp only)) | walk1 | (dsimp only; walk1) | fail "no step")
      · refine use_ref W' B' F X' N ⟨rfl, rfl⟩ ⟨rfl, le_of_ble rfl, rfl, le_of_ble rfl⟩ ?_
        intro x dx ka kb kc kd h' tk F N lx ldx
        have clrx := clr1.two (ox := instObj 289 dx) (odx := refD w ka kb kc kd 900 0) lx ldx (by k_mem) (by k_mem) (by k_mem) (by k_mem) (by k_mem) (by k_mem) (by k_mem) (by k_mem)
        (try k_lt lx); (try k_lt2 ldx)
        (try dsimp only); (try k_fold)
        repeat' ((fail_if_success (k_end; (try dsimp only); (with_reducible show CropMid _ _ _ _ _ _ _ _ _ _ _ _ _ _ _ _ _ _ _ _ _ _ _ _ _))); first | (k_unfold; (try dsimp only)) | walk1 | (dsimp only; walk1) | fail "no step")
        all_goals (try dsimp only)
        have sX : ∀ q ∈ Z1, q ∈ ((x, instObj 289 dx) :: (dx, refD w ka kb kc kd 900 0) :: Z1 : Led) := fun q hq => .tail _ (.tail _ hq)
        exact crop_end (c := none) (Z' := (x, instObj 289 dx) :: (dx, refD w ka kb kc kd 900 0) :: Z1) (by assumption) (by assumption) (by simp only [List.forall_mem_cons]; exact ⟨by k_mem, by k_mem, by k_mem, by k_mem, by k_mem, by k_mem, by k_mem, by k_mem, by k_mem, by k_mem, fun q hq => by repeat (first | exact hq | refine List.mem_cons_of_mem _ ?_)⟩) rfl rfl (by assumption) rfl rfl (hb.mono sX) (.inr (.inl ⟨_, rfl, ⟨x, dx, ka, kb, kc, kd, rfl, .head _, .tail _ (.head _)⟩, rfl⟩)) (by rw [boxed_none]; exact hSd.mono sX) hd1 hTb1 (by omega) (by omega) (by omega) (by omega) sX clrx
      · have hpre2 : ∀ x ∈ ([(fd, ofd1), (L' + 1 + 1, ocs), (L' + 1, oc2), (497, tabObj ps)] : Led), Off P S dS T x.1 := by
          simp only [List.forall_mem_cons] at hpre ⊢
          exact hpre
        refine use_lawbox (pre := [(fd, ofd1), (L' + 1 + 1, ocs), (L' + 1, oc2), (497, tabObj ps)]) W' B' (by assumption) (by assumption) ⟨rfl, rfl⟩ ⟨rfl, le_of_ble rfl, rfl, le_of_ble rfl⟩ hC' ap hI hlen hd1 loT hTb1 (by omega) (by omega) (by omega) (by omega) (by omega) (fun q hq => ⟨clr1.P q hq, clr1.S q hq, clr1.dS q hq, clr1.T q hq⟩) hpre2 ?_
        clear N
        intro pr2 v2 dv2 np2 cd sp3 lf3 nn3 k31 k32 oT2 kvs2 m2 Z2 h3 tk3 F N sub2 off2 ne2 mp2 hb2 hu2 hd2 hTb2 r21 r22 ext2 r23 r24 r25
        obtain ⟨va2, rfl⟩ := hb2.ref
        have clr2 := clr1.grow off2 ne2
        clear ne2 off2
        replace hb := hb.mono2 sub2 ext2
        replace hSd := hSd.mono sub2
        (try dsimp only); (try k_fold)
        simp only [List.cons_append, List.nil_append] at N
        obtain ⟨yyP, yyS, yydS, yyT, yyfd, yyc1, yyc2, yyPT⟩ := id clr2
        rcases hu2 with ⟨rfl, rfl⟩ | ⟨e2, n2, b0, b1, b2, b3, u0, u1, u2, u3, rfl, rfl, me2⟩
        · repeat' ((fail_if_success (k_end; (try dsimp only); (with_reducible show CropMid _ _ _ _ _ _ _ _ _ _ _ _ _ _ _ _ _ _ _ _ _ _ _ _ _))); first | (k_unfold; (try dsimp only)) | walk1 | (dsimp only; walk1) | fail "no step")
          all_goals (try dsimp only)
          exact crop_end (Z' := Z2) (by assumption) (by assumption) (by simp only [List.forall_mem_cons]; exact ⟨by k_mem, by k_mem, by k_mem, by k_mem, by k_mem, by k_mem, by k_mem, by k_mem, (fun q hq => by repeat (first | exact hq | refine List.mem_cons_of_mem _ ?_))⟩) rfl rfl (by assumption) rfl rfl hb (.inr (.inr ⟨_, _, rfl, hb2, rfl⟩)) (.inl ⟨boxed_bad, _, rfl⟩) hd2 hTb2 (by omega) (by omega) (by omega) (by omega) sub2 clr2
        · rcases hSd with ⟨rfl, kk, rfl⟩ | ⟨e1, n1, a0, a1, a2, a3, t0, t1, t2, t3, rfl, rfl, me1⟩
          · repeat' ((fail_if_success (k_end; (try dsimp only); (with_reducible show CropMid _ _ _ _ _ _ _ _ _ _ _ _ _ _ _ _ _ _ _ _ _ _ _ _ _))); first | (k_unfold; (try dsimp only)) | walk1 | (dsimp only; walk1) | fail "no step")
            all_goals (try dsimp only)
            exact crop_end (Z' := Z2) (by assumption) (by assumption) (by simp only [List.forall_mem_cons]; exact ⟨by k_mem, by k_mem, by k_mem, by k_mem, by k_mem, by k_mem, by k_mem, by k_mem, (fun q hq => by repeat (first | exact hq | refine List.mem_cons_of_mem _ ?_))⟩) rfl rfl (by assumption) rfl rfl hb (.inr (.inr ⟨_, _, rfl, hb2, rfl⟩)) (.inl ⟨rfl, _, rfl⟩) hd2 hTb2 (by omega) (by omega) (by omega) (by omega) sub2 clr2
          · repeat' ((fail_if_success (with_reducible show wpAny _ _ (call (Value.ref 495) _) _ _ _)); first | (k_unfold; (try dsimp only)) | walk1 | (dsimp only; walk1) | fail "no step")
            refine use_cut W' B' (by assumption) (by assumption) ⟨rfl, rfl⟩ ⟨rfl, le_of_ble rfl, rfl, le_of_ble rfl⟩ (by k_mem) (by k_mem) ?_
            intro r4 h4 tk4 nw4 F N hdis hsr
            have clr3 := clr2.app hdis (by k_mem) (by k_mem) (by k_mem) (by k_mem) (by k_mem) (by k_mem) (by k_mem) (by k_mem)
            have sN : ∀ q ∈ Z2, q ∈ nw4 ++ Z2 := fun q hq => List.mem_append_right _ hq
            (try dsimp only); (try k_fold)
            repeat' ((fail_if_success (k_end; (try dsimp only); (with_reducible show CropMid _ _ _ _ _ _ _ _ _ _ _ _ _ _ _ _ _ _ _ _ _ _ _ _ _))); first | (k_unfold; (try dsimp only)) | walk1 | (dsimp only; walk1) | fail "no step")
            all_goals (try dsimp only)
            exact crop_end (Z' := nw4 ++ Z2) (by assumption) (by assumption) (by simp only [List.forall_mem_cons]; exact ⟨List.mem_append_right _ (by k_mem), List.mem_append_right _ (by k_mem), List.mem_append_right _ (by k_mem), List.mem_append_right _ (by k_mem), List.mem_append_right _ (by k_mem), List.mem_append_right _ (by k_mem), List.mem_append_right _ (by k_mem), List.mem_append_right _ (by k_mem), fun q hq => (List.mem_append.mp hq).elim (fun h => List.mem_append_left _ h) fun h => List.mem_append_right _ (by repeat (first | exact h | refine List.mem_cons_of_mem _ ?_))⟩) rfl rfl (by assumption) rfl rfl (hb.mono sN) (.inr (.inr ⟨_, _, rfl, hb2.mono sN, rfl⟩)) (hsr.mono fun q hq => List.mem_append_left _ hq) hd2 hTb2 (by omega) (by omega) (by omega) (by omega) (fun q hq => sN q (sub2 q hq)) clr3
      · all_goals (try dsimp only)
        exact crop_end (c := none) (Z' := Z1) (by assumption) (by assumption) (by simp only [List.forall_mem_cons]; exact ⟨by k_mem, by k_mem, by k_mem, by k_mem, by k_mem, by k_mem, by k_mem, by k_mem, (fun q hq => by repeat (first | exact hq | refine List.mem_cons_of_mem _ ?_))⟩) rfl rfl (by assumption) rfl rfl hb (.inl ⟨rfl, rfl⟩) (by rw [boxed_none]; exact hSd) hd1 hTb1 (by omega) (by omega) (by omega) (by omega) (fun _ h => h) clr1
    case hD =>
      clear hb hSd hpre hd1 hTb1 hdf1 clr1 zP zS zdS zT zfd zc1 zc2 zPT N
      intro m' dv ofd3 fkvs sp5 lf5 k51 k52 nn5 oT5 kvs5 m5 Z3 cv c h5 tk5 F N hfd hmv hcv hb hc hs hd hTb hn x1 x2 x3 subZ clr3
      obtain ⟨zP, zS, zdS, zT, zfd, zc1, zc2, zPT⟩ := id clr3
      (try dsimp only); (try k_fold)
      repeat' ((fail_if_success (with_reducible show wpAny _ _ (eval (Expr.Lambda _ _ _ _) _) _ _ _)); first | (k_unfold; (try dsimp only)) | walk1 | (dsimp only; walk1) | fail "no step")
      rename_i R dR _ _ _ _ _ _ _ _ pg dpg k5 k6 _ _ _ _ _ ocp F N dcp
      have yZ : ∀ q ∈ Y, q ∈ Z3 := fun q hq => subZ q (sub1 q hq)
      refine' use_lam (clos := [("shelf", L' + 1 + 1), ("page", L' + 1)]) (qual := boxQual) (P := 497) (c := 501) (ps := ps) (Z := Y) ?hdef ?hq F N T' (codeHd_of X' (hd_box _)) ?hcd ?U ?S ?subZ ?hcl ?_
      case hdef => exact rfl
      case hq => exact rfl
      case hcd => exact rfl
      case U => k_updF
      case S => exact hTS
      case subZ => exact fun q hq => (fun (hz : q ∈ Z3) => by repeat (first | exact hz | refine List.mem_cons_of_mem _ ?_)) (yZ q hq)
      case hcl => exact rfl
      clear N
      intro f c' oc vsl tl pmv ctv ps2 h6 tk6 F N hps hoc hov lf2 lc
      (try dsimp only at N); (try dsimp only); (try k_fold)
      repeat' ((fail_if_success (with_reducible show wpAny _ _ (call (Value.ref 483) _) _ _ _)); first | (k_unfold; (try dsimp only)) | walk1 | (dsimp only; walk1) | fail "no step")
      have Dg := dicts_ground hl G D
      have lc2 : (c', oc) ∈ Y ∨ c' ≠ P ∧ c' ≠ 497 ∧ ∀ q ∈ Y, q.1 ≠ c' := lc.imp id fun z => ⟨Nat.ne_of_gt (z (P, penO C sp5 lf5 k51 k52 nn5) (by k_mem)), Nat.ne_of_gt (z (497, tabObj ps) (by k_mem)), fun q hq => Nat.ne_of_lt (z q ((fun (hz : q ∈ Z3) => by repeat (first | exact hz | refine List.mem_cons_of_mem _ ?_)) (yZ q hq)))⟩
      clear lc lf2
      refine use_okS (mt := []) (call_le (heard_ok (Post := fun nw r => ∃ q, boxed md c = some q ∧ FourPost w Z3 q nw r) (Dn := boxed md c = none) (cx_of W' B' F ⟨rfl, rfl⟩) (dicts_cons ⟨rfl, rfl⟩ Dg F) (FnAt.of N (.head _)) (lam_box (f := f) (c' := c') (cp := L' + 1) (cs := L' + 1 + 1) (S := S) (dS := dS) (T := T) (T2 := T2) (pg := pg) (dpg := dpg) (fd := fd) (R := R) (k3 := k3) (k4 := k4) (k5 := k5) (k6 := k6) (oc := oc) (ocp := ocp) (ocs := ocs) (oT := oT5) (ofd := ofd3) (Z := Z3) (qual := boxQual) (pm := pmv) (ctv := ctv) (led_of ⟨rfl, rfl⟩ B' F N (by simp only [List.forall_mem_cons]; exact ⟨by k_mem, by k_mem, by k_mem, by k_mem, by k_mem, by k_mem, by k_mem, by k_mem, by k_mem, by k_mem, fun q hq => by repeat (first | exact hq | refine List.mem_cons_of_mem _ ?_)⟩)) hoc hov dcp dcs hd loT hTb (by omega) hfd loF hmv hcv hb hc)) rfl (le_of_ble rfl) rfl (le_of_ble rfl)) W' B' F N ⟨rfl, rfl⟩ Dg (fun q hq => ⟨hq, fun h => nomatch h⟩) (fun a ha => nomatch ha) ?_
      intro r7 h7 g7 tk7 nw7 Tn F7 N7 hdis B7 X7 T7 D7 hp
      clear F N hdis X' T' B'
      (try dsimp only); (try k_fold)
      rcases hp with ⟨q, hq, e, n, r0, r1, r2, r3, t0, t1, t2, t3, p0, p1, p2, p3, rfl, me, v0, v1, v2, v3, hqq⟩ | ⟨hDn, rfl, kk, rfl⟩
      · repeat' ((fail_if_success (with_reducible show wpAny _ _ (call (Value.ref 488) _) _ _ _)); first | (k_unfold; (try dsimp only)) | walk1 | (dsimp only; walk1) | fail "no step")
        refine use_thou W' B7 F7 N7 ⟨rfl, rfl⟩ ⟨rfl, le_of_ble rfl, rfl, le_of_ble rfl⟩ (List.mem_append_left _ me) (v0.mono (app_sub ?zz)) (v1.mono (app_sub ?zz)) (v2.mono (app_sub ?zz)) (v3.mono (app_sub ?zz)) ?_
        case zz => exact (fun q hq => by repeat (first | exact hq | refine List.mem_cons_of_mem _ ?_))
        intro r8 h8 tk8 nw8 F8 N8 hsr
        rw [← hqq, ← hq] at hsr
        (try dsimp only); (try k_fold)
        repeat' ((fail_if_success (with_reducible show wpAny _ _ (compareOp CmpOp.Eq _ _) _ _ _)); first | (k_unfold; (try dsimp only)) | walk1 | (dsimp only; walk1) | fail "no step")
        refine eq_sides N8 hsr hs (fun q hq => List.mem_append_left _ hq) (fun q hq => List.mem_append_right _ (List.mem_append_right _ ((fun (hz : q ∈ Z3) => by repeat (first | exact hz | refine List.mem_cons_of_mem _ ?_)) hq))) (le_of_ble rfl) ?_
        repeat' ((fail_if_success (k_end; (try dsimp only); (with_reducible show OkS _ _ _ _ _ _))); first | (k_unfold; (try dsimp only)) | walk1 | (dsimp only; walk1) | fail "no step")
        all_goals (try dsimp only)
        refine holds_end (sp := sp5) (lf := lf5) (k1 := k51) (k2 := k52) (n := nn5) (rest := (f, _) :: _) G hl Tn (by assumption) N8 (fun q hq => List.mem_append_right _ (List.mem_append_right _ hq)) ?_ ?_ ?_ ?_ hps hoc hov lc2 (by omega) (by omega) (by omega)
        · k_mem
        · k_mem
        · k_mem
        · exact fun q hq => (fun (hz : q ∈ Z3) => by repeat (first | exact hz | refine List.mem_cons_of_mem _ ?_)) (yZ q hq)
      · repeat' ((fail_if_success (with_reducible show wpAny _ _ (call (Value.ref 488) _) _ _ _)); first | (k_unfold; (try dsimp only)) | walk1 | (dsimp only; walk1) | fail "no step")
        refine use_thous W' B7 F7 N7 ⟨rfl, rfl⟩ ⟨rfl, le_of_ble rfl, rfl, le_of_ble rfl⟩ ?_
        intro kk8 h8 tk8 F8 N8
        have hsr : SidesV [] (.str "refused" kk8) (boxed md c) := .inl ⟨hDn, _, rfl⟩
        (try dsimp only); (try k_fold)
        repeat' ((fail_if_success (with_reducible show wpAny _ _ (compareOp CmpOp.Eq _ _) _ _ _)); first | (k_unfold; (try dsimp only)) | walk1 | (dsimp only; walk1) | fail "no step")
        refine eq_sides N8 hsr hs (fun _ hq => nomatch hq) (fun q hq => List.mem_append_right _ ((fun (hz : q ∈ Z3) => by repeat (first | exact hz | refine List.mem_cons_of_mem _ ?_)) hq)) (le_of_ble rfl) ?_
        repeat' ((fail_if_success (k_end; (try dsimp only); (with_reducible show OkS _ _ _ _ _ _))); first | (k_unfold; (try dsimp only)) | walk1 | (dsimp only; walk1) | fail "no step")
        all_goals (try dsimp only)
        refine holds_end (sp := sp5) (lf := lf5) (k1 := k51) (k2 := k52) (n := nn5) (rest := (f, _) :: _) G hl Tn (by assumption) N8 (fun q hq => List.mem_append_right _ hq) ?_ ?_ ?_ ?_ hps hoc hov lc2 (by omega) (by omega) (by omega)
        · k_mem
        · k_mem
        · k_mem
        · exact fun q hq => (fun (hz : q ∈ Z3) => by repeat (first | exact hz | refine List.mem_cons_of_mem _ ?_)) (yZ q hq)
end
end
section
theorem rg_LawU : True := by
  k_with_none
  (k_with "omA" => (first | (with_reducible (first | exact And.left ‹_› | exact And.left (And.right ‹_›) | exact And.left (And.right (And.right ‹_›)) | exact And.left (And.right (And.right (And.right ‹_›))) | exact And.left (And.right (And.right (And.right (And.right ‹_›)))) | exact And.left (And.right (And.right (And.right (And.right (And.right ‹_›))))) | exact And.left (And.right (And.right (And.right (And.right (And.right (And.right ‹_›)))))) | exact And.left (And.right (And.right (And.right (And.right (And.right (And.right (And.right ‹_›))))))) | exact And.left (And.right (And.right (And.right (And.right (And.right (And.right (And.right (And.right ‹_›)))))))) | exact And.left (And.right (And.right (And.right (And.right (And.right (And.right (And.right (And.right (And.right ‹_›))))))))) | exact And.left (And.right (And.right (And.right (And.right (And.right (And.right (And.right (And.right (And.right (And.right ‹_›)))))))))) | exact And.left (And.right (And.right (And.right (And.right (And.right (And.right (And.right (And.right (And.right (And.right (And.right ‹_›))))))))))) | exact And.left (And.right (And.right (And.right (And.right (And.right (And.right (And.right (And.right (And.right (And.right (And.right (And.right ‹_›)))))))))))) | exact And.left (And.right (And.right (And.right (And.right (And.right (And.right (And.right (And.right (And.right (And.right (And.right (And.right (And.right ‹_›))))))))))))) | exact And.left (And.right (And.right (And.right (And.right (And.right (And.right (And.right (And.right (And.right (And.right (And.right (And.right (And.right (And.right ‹_›)))))))))))))) | exact And.left (And.right (And.right (And.right (And.right (And.right (And.right (And.right (And.right (And.right (And.right (And.right (And.right (And.right (And.right (And.right ‹_›))))))))))))))) | exact And.left (And.right (And.right (And.right (And.right (And.right (And.right (And.right (And.right (And.right (And.right (And.right (And.right (And.right (And.right (And.right (And.right ‹_›)))))))))))))))) | exact And.right ‹_› | exact And.right (And.right ‹_›) | exact And.right (And.right (And.right ‹_›)) | exact And.right (And.right (And.right (And.right ‹_›))) | exact And.right (And.right (And.right (And.right (And.right ‹_›)))))) | fail))
  (k_with "omC" => (first | decide | fail))
  (k_with "omU" => (first | (k_extra "omC") | (with_reducible (first | exact o_le ‹_› (by decide) | exact o_lel ‹_› (by decide) | exact o_mul ‹_› (by decide) (by decide) | exact o_mull ‹_› (by decide) (by decide))) | ((with_reducible refine o_chl ‹_› ?_); k_extra "omU") | ((with_reducible refine o_addc ?_); k_extra "omU") | ((with_reducible refine o_subc ?_); k_extra "omU") | ((with_reducible refine o_subv ‹_› ?_); k_extra "omU") | ((with_reducible refine o_add2 ‹_› ?_); k_extra "omU") | ((with_reducible refine o_add2l ‹_› ?_); k_extra "omU") | ((with_reducible refine o_addl ?_); k_extra "omU") | ((with_reducible refine o_addm ‹_› (by decide) ?_); k_extra "omU") | fail))
  (k_with "omL" => (first | (k_extra "omC") | (with_reducible (first | exact o_ge ‹_› (by decide) | exact o_gel ‹_› (by decide) | exact o_gmul ‹_› (by decide) (by decide))) | ((with_reducible refine o_gaddc ?_); k_extra "omL") | ((with_reducible refine o_gsubc ?_); k_extra "omL") | ((with_reducible refine o_gsubv ‹_› ?_); k_extra "omL") | ((with_reducible refine o_gsubvl ‹_› ?_); k_extra "omL") | ((with_reducible refine o_gadd2 ‹_› ?_); k_extra "omL") | ((with_reducible refine o_gaddl ?_); k_extra "omL") | ((with_reducible refine o_gaddm ‹_› (by decide) ?_); k_extra "omL") | fail))
  (k_with "omR" => (first | (with_reducible (first | exact o_self (by decide))) | ((with_reducible refine o_ch ‹_› ?_); k_extra "omR") | ((with_reducible refine o_addch ?_); k_extra "omR") | fail))
  (k_with "omZ" => (first | (k_extra "omR") | (k_extra "omU") | (k_extra "omL") | fail))
  (k_with "omX" => (first | decide | (k_extra "omZ") | (with_reducible (first | exact Int.le_refl _ | exact Nat.le_refl _ | exact o_nle ‹_› (by decide) | exact o_nlt ‹_› (by decide) | exact o_nlel ‹_› (by decide))) | ((with_reducible refine o_ltc ?_); k_extra "omZ") | ((with_reducible refine o_gtc ?_); k_extra "omZ") | (with_reducible (first | exact o_iffn ‹_› ‹_› | exact o_neql ‹_› (by decide) | exact o_neqi ‹_› (by decide))) | ((with_reducible show _ < _); (first | (with_reducible exact Iff.mp ‹_› ‹_›) | k_extra "omA")) | ((repeat (rename _ ≠ _ => hz; clear hz)); (repeat (rename _ ≠ _ ∧ _ => hz; clear hz)); omega +splitDisjunctions) | fail))
  (k_with "omN" => (first | (with_reducible (first | exact o_n1 | exact o_n1' | exact o_ne ‹_› | exact o_ne' ‹_› | exact o_lt ‹_› | exact o_gt ‹_› | exact o_ne (by k_extra "omA") | exact o_ne' (by k_extra "omA") | exact o_lt (by k_extra "omA") | exact o_gt (by k_extra "omA") | exact o_lts1 (by k_extra "omA") | exact o_lts1' (by k_extra "omA") | exact o_lts2 (by k_extra "omA") | exact o_lts2' (by k_extra "omA") | exact o_gt2 ‹_› (by k_extra "omA") | exact o_lt2 ‹_› (by k_extra "omA"))) | fail))
  (k_with "om" => (first | with_reducible assumption | ((first | (with_reducible show _ ≤ _) | (with_reducible show _ < _)); k_extra "omX") | ((with_reducible show _ = _ → False); k_extra "omN") | fail))
  trivial
open PySem PySem.W PyProof.Rows PySem.Calls PyProof.Rows.LCg
structure LClr (P C c1 I : Addr) (Y : Led) : Prop where
  P : ∀ q ∈ Y, q.1 ≠ P
  t1 : ∀ q ∈ Y, q.1 ≠ 497
  t2 : ∀ q ∈ Y, q.1 ≠ 504
  t3 : ∀ q ∈ Y, q.1 ≠ 511
  C : ∀ q ∈ Y, q.1 ≠ C
  c1 : ∀ q ∈ Y, q.1 ≠ c1
  I : ∀ q ∈ Y, q.1 ≠ I
structure LAp (P C c1 I : Addr) : Prop where
  p1 : P ≠ 497
  p2 : P ≠ 504
  p3 : P ≠ 511
  nC : C ≠ P
  nc : c1 ≠ P
  nI : I ≠ P
  nC1 : C ≠ 497
  nc1 : c1 ≠ 497
  nI1 : I ≠ 497
  nC2 : C ≠ 504
  nc2 : c1 ≠ 504
  nI2 : I ≠ 504
  nI3 : I ≠ 511
  nIC : C ≠ I
  nIc : c1 ≠ I
theorem not2 {a P T : Addr} (h1 : a ≠ P) (h2 : a ≠ T) : a ∉ [P, T] := by
  simp only [List.mem_cons, List.not_mem_nil, or_false, not_or]
  exact ⟨h1, h2⟩
section
variable {M : Model} {A A₀ : Around} {t : Sem Value} {s : Shared} {mt : List Addr} {Post : Led → Value → Prop} {base h₀ : Heap} {L : Addr} {m : Str → Option Value} {news rest : Led} {Q : Value → Shared → Prop} {E : Value → Shared → Prop} {env : Env}
  {w : World} {p : Program} {loose : List Str} {mean : ExcName → Option Value} {mg mb : Str → Option Value}
theorem use_okS0 (c : wpAny M A t (OkS [env] s mt Post) Never s) (W : Wd w p loose mean mg mb base) (B : Below A₀ base [] h₀) (F : Fr h₀ L s.heap m) (N : News h₀ L s.heap news) (hk : EnvAt env L) (hr : ∀ q ∈ rest, q ∈ news ∧ q.1 ∉ mt) (hm : ∀ a ∈ mt, h₀.get? a = none ∧ a ≠ L)
    (k : ∀ r h' tk' nw, Fr h₀ L h' m → News h₀ L h' (nw ++ rest) → (∀ q ∈ nw, ∀ x ∈ rest, x.1 ≠ q.1) → Post nw r → Q r { s with heap := h', toks := tk' }) : wpAny M A t Q E s :=
  use_okS c W B F N hk ktsDicts_nil hr hm fun r h' g' tk nw T F' N' hd _ _ _ _ hp => k r h' tk nw ⟨F'.ns, fun b o e => F'.keep _ _ (T.other b o e (fun h => nomatch h)), by rw [← T.size]; exact F'.above⟩
    (fun q hq => ⟨(N' q hq).1, (N' q hq).2.1, by
      cases e : h₀.get? q.1 with
      | none => rfl
      | some o =>
        have := (N' q hq).2.2
        rw [T.other _ _ e (fun h => nomatch h)] at this; cases this⟩) hd hp
section
variable {P C c1 I : Addr} {oc oI : Obj} {spot left : Int} {k1 k2 : Tok} {n : Nat} {ps1 ps2 : Array Value} {ys : List Value} {ns : List Int} {Y : Led}
theorem lclr_app {A' rest : Led} (hA : ∀ q ∈ A', ∀ x ∈ rest, x.1 ≠ q.1) (aP : ∀ q ∈ A', q.1 ≠ P) (a1 : ∀ q ∈ A', q.1 ≠ 497) (a2 : ∀ q ∈ A', q.1 ≠ 504) {o3 o4 o5 o6 : Obj} (m3 : (511, o3) ∈ rest) (m4 : (C, o4) ∈ rest) (m5 : (c1, o5) ∈ rest) (m6 : (I, o6) ∈ rest) (cl : LClr P C c1 I Y) : LClr P C c1 I (A' ++ Y) := by
  have app : ∀ {a : Addr}, (∀ q ∈ A', q.1 ≠ a) → (∀ q ∈ Y, q.1 ≠ a) → ∀ q ∈ A' ++ Y, q.1 ≠ a := fun h1 h2 q hq => (List.mem_append.mp hq).elim (h1 q) (h2 q)
  have fr : ∀ {a : Addr} {o : Obj}, (a, o) ∈ rest → ∀ q ∈ A', q.1 ≠ a := fun hm q hq e => hA q hq _ hm e.symm
  exact ⟨app aP cl.P, app a1 cl.t1, app a2 cl.t2, app (fr m3) cl.t3, app (fr m4) cl.C, app (fr m5) cl.c1, app (fr m6) cl.I⟩
theorem use_bh (W : Wd w p loose mean mg mb base) (B : Below A₀ base [] h₀) (F : Fr h₀ L s.heap m) (N : News h₀ L s.heap ((I, oI) :: (P, penO C spot left k1 k2 n) :: (497, tabObj ps1) :: (504, tabObj ps2) :: (511, tabObj #[]) :: (C, lst ys) :: (c1, oc) :: Y)) (hk : EnvAt env L) (a1 : At A [env] 505 4400)
    (st1 : TabSt Y 313 39 boxQual ps1) (st2 : TabSt Y 326 22 turnQual ps2) (cl : LClr P C c1 I Y) (ap : LAp P C c1 I) (hI : IntsAre ys ns) (hlen : ns.length ≤ 63) (hs0 : 0 ≤ spot) (hs1 : spot ≤ 70000) (hl0 : 0 ≤ left)
    (k : ∀ h' tk spot' left' n' k1' k2' ps1' Y', Fr h₀ L h' m → News h₀ L h' ((I, oI) :: (P, penO C spot' left' k1' k2' n') :: (497, tabObj ps1') :: (504, tabObj ps2) :: (511, tabObj #[]) :: (C, lst ys) :: (c1, oc) :: Y') → TabSt Y' 313 39 boxQual ps1' → TabSt Y' 326 22 turnQual ps2 → LClr P C c1 I Y' →
      0 ≤ spot' → spot' ≤ spot + 60 → 0 ≤ left' → Q (.bool true) { s with heap := h', toks := tk }) : wpAny (model PW w) A (call (.ref 502) [.ref P]) Q E s := by
  have mP := N (P, penO C spot left k1 k2 n) (.tail _ (.head _))
  have mT := N (497, tabObj ps1) (.tail _ (.tail _ (.head _)))
  have mC : (C, lst ys) ∈ ((I, oI) :: (P, penO C spot left k1 k2 n) :: (497, tabObj ps1) :: (504, tabObj ps2) :: (511, tabObj #[]) :: (C, lst ys) :: (c1, oc) :: Y : Led) := .tail _ (.tail _ (.tail _ (.tail _ (.tail _ (.head _)))))
  have c := call_le (box_holds_ok (gd := A.guards) (cx_of W B F hk) (dicts_cons hk ktsDicts_nil F) (led_of (led := (P, penO C spot left k1 k2 n) :: (497, tabObj ps1) :: Y) hk B F N (by
      simp only [List.forall_mem_cons]
      exact ⟨.tail _ (.head _), .tail _ (.tail _ (.head _)), fun q hq => .tail _ (.tail _ (.tail _ (.tail _ (.tail _ (.tail _ (.tail _ hq))))))⟩)) st1 (N.isList mC) (by
      simp only [List.map_cons, List.mem_cons, not_or]
      refine ⟨ap.nC, ap.nC1, fun hm => ?_⟩
      obtain ⟨x, hx, e⟩ := List.mem_map.mp hm
      exact cl.C x hx e) ap.p1 (fun q hq => ⟨cl.P q hq, cl.t1 q hq⟩) hI hlen hs0 hs1 hl0) a1.h a1.d a1.f a1.u
  refine use_okS0 (rest := (I, oI) :: (504, tabObj ps2) :: (511, tabObj #[]) :: (C, lst ys) :: (c1, oc) :: Y) c W B F N hk ?_ ?_ fun r h' tk nw F' N' hd hp => ?_
  · simp only [List.forall_mem_cons]
    exact ⟨⟨.head _, not2 ap.nI ap.nI1⟩, ⟨.tail _ (.tail _ (.tail _ (.head _))), not2 (Ne.symm ap.p2) (by decide)⟩, ⟨.tail _ (.tail _ (.tail _ (.tail _ (.head _)))), not2 (Ne.symm ap.p3) (by decide)⟩, ⟨.tail _ (.tail _ (.tail _ (.tail _ (.tail _ (.head _))))), not2 ap.nC ap.nC1⟩, ⟨.tail _ (.tail _ (.tail _ (.tail _ (.tail _ (.tail _ (.head _)))))), not2 ap.nc ap.nc1⟩, fun q hq => ⟨.tail _ (.tail _ (.tail _ (.tail _ (.tail _ (.tail _ (.tail _ hq)))))), not2 (cl.P q hq) (cl.t1 q hq)⟩⟩
  · intro a ha
    rcases List.mem_cons.mp ha with rfl | ha
    · exact ⟨mP.2.2, mP.2.1⟩
    · rw [List.mem_singleton.mp ha]; exact ⟨mT.2.2, mT.2.1⟩
  · obtain ⟨spot', left', n', k1', k2', ps1', A', rfl, rfl, st, x1, x2, x3, hA⟩ := hp
    have dA : ∀ q ∈ A', ∀ x ∈ ((I, oI) :: (504, tabObj ps2) :: (511, tabObj #[]) :: (C, lst ys) :: (c1, oc) :: Y : Led), x.1 ≠ q.1 := fun q hq => hd q (.tail _ (.tail _ hq))
    refine k h' tk spot' left' n' k1' k2' ps1' (A' ++ Y) F' (fun q hq => N' q ?_) st (st2.mono fun q hq => List.mem_append_right _ hq) (lclr_app dA (fun q hq => (hA q hq).1) (fun q hq => (hA q hq).2) (fun q hq e => dA q hq _ (.tail _ (.head _)) e.symm) (.tail _ (.tail _ (.head _))) (.tail _ (.tail _ (.tail _ (.head _)))) (.tail _ (.tail _ (.tail _ (.tail _ (.head _))))) (.head _) cl) x1 x2 x3
    simp only [List.mem_cons, List.mem_append, List.cons_append] at hq ⊢
    rcases hq with h | h | h | h | h | h | h | h | h <;> simp [h]
theorem use_th (W : Wd w p loose mean mg mb base) (B : Below A₀ base [] h₀) (F : Fr h₀ L s.heap m) (N : News h₀ L s.heap ((I, oI) :: (P, penO C spot left k1 k2 n) :: (497, tabObj ps1) :: (504, tabObj ps2) :: (511, tabObj #[]) :: (C, lst ys) :: (c1, oc) :: Y)) (hk : EnvAt env L) (a1 : At A [env] 505 4400)
    (st1 : TabSt Y 313 39 boxQual ps1) (st2 : TabSt Y 326 22 turnQual ps2) (cl : LClr P C c1 I Y) (ap : LAp P C c1 I) (hI : IntsAre ys ns) (hlen : ns.length ≤ 63) (hs0 : 0 ≤ spot) (hs1 : spot ≤ 70000) (hl0 : 0 ≤ left)
    (k : ∀ h' tk spot' left' n' k1' k2' ps2' Y', Fr h₀ L h' m → News h₀ L h' ((I, oI) :: (P, penO C spot' left' k1' k2' n') :: (497, tabObj ps1) :: (504, tabObj ps2') :: (511, tabObj #[]) :: (C, lst ys) :: (c1, oc) :: Y') → TabSt Y' 313 39 boxQual ps1 → TabSt Y' 326 22 turnQual ps2' → LClr P C c1 I Y' →
      0 ≤ spot' → spot' ≤ spot + 60 → 0 ≤ left' → Q (.bool true) { s with heap := h', toks := tk }) : wpAny (model PW w) A (call (.ref 509) [.ref P]) Q E s := by
  have mP := N (P, penO C spot left k1 k2 n) (.tail _ (.head _))
  have mT := N (504, tabObj ps2) (.tail _ (.tail _ (.tail _ (.head _))))
  have mC : (C, lst ys) ∈ ((I, oI) :: (P, penO C spot left k1 k2 n) :: (497, tabObj ps1) :: (504, tabObj ps2) :: (511, tabObj #[]) :: (C, lst ys) :: (c1, oc) :: Y : Led) := .tail _ (.tail _ (.tail _ (.tail _ (.tail _ (.head _)))))
  have c := call_le (turn_holds_ok (gd := A.guards) (cx_of W B F hk) (dicts_cons hk ktsDicts_nil F) (led_of (led := (P, penO C spot left k1 k2 n) :: (504, tabObj ps2) :: Y) hk B F N (by
      simp only [List.forall_mem_cons]
      exact ⟨.tail _ (.head _), .tail _ (.tail _ (.tail _ (.head _))), fun q hq => .tail _ (.tail _ (.tail _ (.tail _ (.tail _ (.tail _ (.tail _ hq))))))⟩)) st2 (N.isList mC) (by
      simp only [List.map_cons, List.mem_cons, not_or]
      refine ⟨ap.nC, ap.nC2, fun hm => ?_⟩
      obtain ⟨x, hx, e⟩ := List.mem_map.mp hm
      exact cl.C x hx e) ap.p2 (fun q hq => ⟨cl.P q hq, cl.t2 q hq⟩) hI hlen hs0 hs1 hl0) a1.h a1.d a1.f a1.u
  refine use_okS0 (rest := (I, oI) :: (497, tabObj ps1) :: (511, tabObj #[]) :: (C, lst ys) :: (c1, oc) :: Y) c W B F N hk ?_ ?_ fun r h' tk nw F' N' hd hp => ?_
  · simp only [List.forall_mem_cons]
    exact ⟨⟨.head _, not2 ap.nI ap.nI2⟩, ⟨.tail _ (.tail _ (.head _)), not2 (Ne.symm ap.p1) (by decide)⟩, ⟨.tail _ (.tail _ (.tail _ (.tail _ (.head _)))), not2 (Ne.symm ap.p3) (by decide)⟩, ⟨.tail _ (.tail _ (.tail _ (.tail _ (.tail _ (.head _))))), not2 ap.nC ap.nC2⟩, ⟨.tail _ (.tail _ (.tail _ (.tail _ (.tail _ (.tail _ (.head _)))))), not2 ap.nc ap.nc2⟩, fun q hq => ⟨.tail _ (.tail _ (.tail _ (.tail _ (.tail _ (.tail _ (.tail _ hq)))))), not2 (cl.P q hq) (cl.t2 q hq)⟩⟩
  · intro a ha
    rcases List.mem_cons.mp ha with rfl | ha
    · exact ⟨mP.2.2, mP.2.1⟩
    · rw [List.mem_singleton.mp ha]; exact ⟨mT.2.2, mT.2.1⟩
  · obtain ⟨spot', left', n', k1', k2', ps2', A', rfl, rfl, st, x1, x2, x3, hA⟩ := hp
    have dA : ∀ q ∈ A', ∀ x ∈ ((I, oI) :: (497, tabObj ps1) :: (511, tabObj #[]) :: (C, lst ys) :: (c1, oc) :: Y : Led), x.1 ≠ q.1 := fun q hq => hd q (.tail _ (.tail _ hq))
    refine k h' tk spot' left' n' k1' k2' ps2' (A' ++ Y) F' (fun q hq => N' q ?_) (st1.mono fun q hq => List.mem_append_right _ hq) st (lclr_app dA (fun q hq => (hA q hq).1) (fun q hq e => dA q hq _ (.tail _ (.head _)) e.symm) (fun q hq => (hA q hq).2) (.tail _ (.tail _ (.head _))) (.tail _ (.tail _ (.tail _ (.head _)))) (.tail _ (.tail _ (.tail _ (.tail _ (.head _))))) (.head _) cl) x1 x2 x3
    simp only [List.mem_cons, List.mem_append, List.cons_append] at hq ⊢
    rcases hq with h | h | h | h | h | h | h | h | h <;> simp [h]
theorem unr_end9 {rest : (Str → Option Value) → List (Addr × Obj) → Prop} {h' : Heap} {tk : Nat} {m' : Str → Option Value} {it oP o1 o2 o3 oC : Obj} (F : Fr h₀ L h' m') (N : News h₀ L h' ((I, it) :: (P, oP) :: (497, o1) :: (504, o2) :: (511, o3) :: (C, oC) :: (c1, oc) :: Y)) (ap : LAp P C c1 I) (cl : LClr P C c1 I Y)
    (r : rest m' ((P, oP) :: (497, o1) :: (504, o2) :: (511, o3) :: (C, oC) :: (c1, oc) :: Y)) : UnrEnd h₀ L s I it rest { s with heap := h', toks := tk } :=
  UnrEnd.intro F N _ (fun q hq => hq) (by
    simp only [List.forall_mem_cons]
    exact ⟨Ne.symm ap.nI, Ne.symm ap.nI1, Ne.symm ap.nI2, Ne.symm ap.nI3, ap.nIC, ap.nIc, cl.I⟩) r
end
end
end
section
theorem rg_Law : True := by
  k_with_none
  (k_with "omA" => (first | (with_reducible (first | exact And.left ‹_› | exact And.left (And.right ‹_›) | exact And.left (And.right (And.right ‹_›)) | exact And.left (And.right (And.right (And.right ‹_›))) | exact And.left (And.right (And.right (And.right (And.right ‹_›)))) | exact And.left (And.right (And.right (And.right (And.right (And.right ‹_›))))) | exact And.left (And.right (And.right (And.right (And.right (And.right (And.right ‹_›)))))) | exact And.left (And.right (And.right (And.right (And.right (And.right (And.right (And.right ‹_›))))))) | exact And.left (And.right (And.right (And.right (And.right (And.right (And.right (And.right (And.right ‹_›)))))))) | exact And.left (And.right (And.right (And.right (And.right (And.right (And.right (And.right (And.right (And.right ‹_›))))))))) | exact And.left (And.right (And.right (And.right (And.right (And.right (And.right (And.right (And.right (And.right (And.right ‹_›)))))))))) | exact And.left (And.right (And.right (And.right (And.right (And.right (And.right (And.right (And.right (And.right (And.right (And.right ‹_›))))))))))) | exact And.left (And.right (And.right (And.right (And.right (And.right (And.right (And.right (And.right (And.right (And.right (And.right (And.right ‹_›)))))))))))) | exact And.left (And.right (And.right (And.right (And.right (And.right (And.right (And.right (And.right (And.right (And.right (And.right (And.right (And.right ‹_›))))))))))))) | exact And.left (And.right (And.right (And.right (And.right (And.right (And.right (And.right (And.right (And.right (And.right (And.right (And.right (And.right (And.right ‹_›)))))))))))))) | exact And.left (And.right (And.right (And.right (And.right (And.right (And.right (And.right (And.right (And.right (And.right (And.right (And.right (And.right (And.right (And.right ‹_›))))))))))))))) | exact And.left (And.right (And.right (And.right (And.right (And.right (And.right (And.right (And.right (And.right (And.right (And.right (And.right (And.right (And.right (And.right (And.right ‹_›)))))))))))))))) | exact And.right ‹_› | exact And.right (And.right ‹_›) | exact And.right (And.right (And.right ‹_›)) | exact And.right (And.right (And.right (And.right ‹_›))) | exact And.right (And.right (And.right (And.right (And.right ‹_›)))))) | fail))
  (k_with "omC" => (first | decide | fail))
  (k_with "omU" => (first | (k_extra "omC") | (with_reducible (first | exact o_le ‹_› (by decide) | exact o_lel ‹_› (by decide) | exact o_mul ‹_› (by decide) (by decide) | exact o_mull ‹_› (by decide) (by decide))) | ((with_reducible refine o_chl ‹_› ?_); k_extra "omU") | ((with_reducible refine o_addc ?_); k_extra "omU") | ((with_reducible refine o_subc ?_); k_extra "omU") | ((with_reducible refine o_subv ‹_› ?_); k_extra "omU") | ((with_reducible refine o_add2 ‹_› ?_); k_extra "omU") | ((with_reducible refine o_add2l ‹_› ?_); k_extra "omU") | ((with_reducible refine o_addl ?_); k_extra "omU") | ((with_reducible refine o_addm ‹_› (by decide) ?_); k_extra "omU") | fail))
  (k_with "omL" => (first | (k_extra "omC") | (with_reducible (first | exact o_ge ‹_› (by decide) | exact o_gel ‹_› (by decide) | exact o_gmul ‹_› (by decide) (by decide))) | ((with_reducible refine o_gaddc ?_); k_extra "omL") | ((with_reducible refine o_gsubc ?_); k_extra "omL") | ((with_reducible refine o_gsubv ‹_› ?_); k_extra "omL") | ((with_reducible refine o_gsubvl ‹_› ?_); k_extra "omL") | ((with_reducible refine o_gadd2 ‹_› ?_); k_extra "omL") | ((with_reducible refine o_gaddl ?_); k_extra "omL") | ((with_reducible refine o_gaddm ‹_› (by decide) ?_); k_extra "omL") | fail))
  (k_with "omR" => (first | (with_reducible (first | exact o_self (by decide))) | ((with_reducible refine o_ch ‹_› ?_); k_extra "omR") | ((with_reducible refine o_addch ?_); k_extra "omR") | fail))
  (k_with "omZ" => (first | (k_extra "omR") | (k_extra "omU") | (k_extra "omL") | fail))
  (k_with "omX" => (first | decide | (k_extra "omZ") | (with_reducible (first | exact Int.le_refl _ | exact Nat.le_refl _ | exact o_nle ‹_› (by decide) | exact o_nlt ‹_› (by decide) | exact o_nlel ‹_› (by decide))) | ((with_reducible refine o_ltc ?_); k_extra "omZ") | ((with_reducible refine o_gtc ?_); k_extra "omZ") | (with_reducible (first | exact o_iffn ‹_› ‹_› | exact o_neql ‹_› (by decide) | exact o_neqi ‹_› (by decide))) | ((with_reducible show _ < _); (first | (with_reducible exact Iff.mp ‹_› ‹_›) | k_extra "omA")) | ((repeat (rename _ ≠ _ => hz; clear hz)); (repeat (rename _ ≠ _ ∧ _ => hz; clear hz)); omega +splitDisjunctions) | fail))
  (k_with "omN" => (first | (with_reducible (first | exact o_n1 | exact o_n1' | exact o_ne ‹_› | exact o_ne' ‹_› | exact o_lt ‹_› | exact o_gt ‹_› | exact o_ne (by k_extra "omA") | exact o_ne' (by k_extra "omA") | exact o_lt (by k_extra "omA") | exact o_gt (by k_extra "omA") | exact o_lts1 (by k_extra "omA") | exact o_lts1' (by k_extra "omA") | exact o_lts2 (by k_extra "omA") | exact o_lts2' (by k_extra "omA") | exact o_gt2 ‹_› (by k_extra "omA") | exact o_lt2 ‹_› (by k_extra "omA"))) | fail))
  (k_with "om" => (first | with_reducible assumption | ((first | (with_reducible show _ ≤ _) | (with_reducible show _ < _)); k_extra "omX") | ((with_reducible show _ = _ → False); k_extra "omN") | fail))
  trivial
open PySem PySem.W PyProof.Rows PySem.Calls PyProof.Rows.LCg
theorem reg_law : PySem.Challenge.rw_nn0125_01 = PySem.Challenge.rw_nn0125_01 ∧ KX = KX := by k_fill; exact ⟨rfl, rfl⟩
theorem kx_notabs (P : Params) : noTabs (KX P) = true := by kernel_rfl
theorem len63 {ys : List Value} {xs : List Int} (uh : IntsAre ys (List.map (fun k => k) (List.take 40 xs))) : (List.map (fun k => k) (List.take 40 xs)).length ≤ 63 := by
  simp only [List.length_map, List.length_take]
  omega
theorem lclr_nil {P C c1 I : Addr} : LClr P C c1 I [] := ⟨(fun _ h => nomatch h), (fun _ h => nomatch h), (fun _ h => nomatch h), (fun _ h => nomatch h), (fun _ h => nomatch h), (fun _ h => nomatch h), (fun _ h => nomatch h)⟩
theorem hd_law (P : Params) : hdIn (KX P) 515 511 = true := by kernel_rfl
section
theorem rg_Law9 : True := by
  (k_with "UnrEnd" => ((k_dflt (refine' unr_end9 ?Fz1 ?Nz1 ?apz1 ?clz1 ?_; (case Fz1 => k_asm); (case Nz1 => k_asm); (case apz1 => assumption); (case clz1 => assumption)))))
  (k_with "exec For Name Call cons nil" => ((k_here; (rename Fr _ _ _ _ => lF'); (with_unfolding_all refine' For_invVF lF' ?k1z2 ?k2z2 ?_; (case k1z2 => exact rfl); (case k2z2 => exact rfl); k_whole))))
  (k_with "exec For Name Subscript cons nil" => ((k_here; (rename Fr _ _ _ _ => lF'); (with_unfolding_all refine' For_invVF lF' ?k1z3 ?k2z3 ?_; (case k1z3 => exact rfl); (case k2z3 => exact rfl); k_whole))))
  (k_with "k_ne" => (((try dsimp only); first | with_reducible assumption | with_reducible exact Ne.symm (by with_reducible assumption) | (refine neN ?_; omega))))
  (k_with "k_all" => (with_reducible assumption))
  (k_with "k_mem" => (((repeat (first | exact List.mem_cons_self | refine List.mem_cons_of_mem _ ?_)); (try (with_reducible_and_instances assumption)); done)))
  (k_with "call ref" => ((k_here; (with_reducible show wpAny _ _ (call (Value.ref 289) _) _ _ _); k_dflt (refine' use_ref ?Wz7 ?Bz7 ?Fz7 ?Xz7 ?Nz7 ?hkz7 ?a1z7 ?_; (case Fz7 => k_asm); (case Xz7 => k_asm); (case Nz7 => k_asm); (case Wz7 => assumption); (case Bz7 => assumption); (case a1z7 => exact ⟨rfl, le_of_ble rfl, rfl, le_of_ble rfl⟩); (case hkz7 => exact ⟨rfl, rfl⟩)); intro _ _ _ _ _ _ _ _ _ _ l1; (try k_lt l1); revert l1; intro _ l2; (try k_lt2 l2); revert l2; intro _; (try k_sweep))))
  (k_with "call ref" => ((k_here; (with_reducible show wpAny _ _ (call (Value.ref 424) _) _ _ _); k_dflt (refine' use_page ?Wz8 ?Bz8 ?Fz8 ?Xz8 ?Nz8 ?hkz8 ?a1z8 ?_; (case Fz8 => k_asm); (case Xz8 => k_asm); (case Nz8 => k_asm); (case Wz8 => assumption); (case Bz8 => assumption); (case a1z8 => exact ⟨rfl, le_of_ble rfl, rfl, le_of_ble rfl⟩); (case hkz8 => exact ⟨rfl, rfl⟩)); intro _ _ _ _ _ _ _ _ l1; (try k_lt l1); revert l1; intro _ l2; (try k_lt2 l2); revert l2; intro _; (try k_sweep))))
  (k_with "call ref" => ((k_here; (with_reducible show wpAny _ _ (call (Value.ref 405) _) _ _ _); k_dflt (refine' use_shelf ?Wz9 ?Bz9 ?Fz9 ?Xz9 ?Nz9 ?hkz9 ?a1z9 ?_; (case Fz9 => k_asm); (case Xz9 => k_asm); (case Nz9 => k_asm); (case Wz9 => assumption); (case Bz9 => assumption); (case a1z9 => exact ⟨rfl, le_of_ble rfl, rfl, le_of_ble rfl⟩); (case hkz9 => exact ⟨rfl, rfl⟩)); intro _ _ _ _ _ _ _ _ _ _ _ _ _ _ _ _ _; (try k_sweep))))
  (k_with "call ref" => ((k_here; (with_reducible show wpAny _ _ (call (Value.ref 502) _) _ _ _); k_dflt (refine' use_bh ?Wz10 ?Bz10 ?Fz10 ?Nz10 ?hkz10 ?a1z10 ?st1z10 ?st2z10 ?clz10 ?apz10 ?hIz10 ?hlz10 ?hs0z10 ?hs1z10 ?hl0z10 ?_; (case Fz10 => k_asm); (case Nz10 => k_asm); (case Wz10 => assumption); (case Bz10 => assumption); (case a1z10 => exact ⟨rfl, le_of_ble rfl, rfl, le_of_ble rfl⟩); (case hkz10 => exact ⟨rfl, rfl⟩); (case st1z10 => assumption); (case st2z10 => assumption); (case clz10 => assumption); (case apz10 => assumption); (case hIz10 => assumption); (case hlz10 => assumption); (case hs0z10 => omega); (case hs1z10 => omega); (case hl0z10 => omega)); intro _ _ _ _ _ _ _ _ _ _ _ _ _ cl' _ _ _; (have c1' := cl'.c1); (have cI' := cl'.I); (have c3' := cl'.t3); (try k_sweep))))
  (k_with "call ref" => ((k_here; (with_reducible show wpAny _ _ (call (Value.ref 509) _) _ _ _); k_dflt (refine' use_th ?Wz11 ?Bz11 ?Fz11 ?Nz11 ?hkz11 ?a1z11 ?st1z11 ?st2z11 ?clz11 ?apz11 ?hIz11 ?hlz11 ?hs0z11 ?hs1z11 ?hl0z11 ?_; (case Fz11 => k_asm); (case Nz11 => k_asm); (case Wz11 => assumption); (case Bz11 => assumption); (case a1z11 => exact ⟨rfl, le_of_ble rfl, rfl, le_of_ble rfl⟩); (case hkz11 => exact ⟨rfl, rfl⟩); (case st1z11 => assumption); (case st2z11 => assumption); (case clz11 => assumption); (case apz11 => assumption); (case hIz11 => assumption); (case hlz11 => assumption); (case hs0z11 => omega); (case hs1z11 => omega); (case hl0z11 => omega)); intro _ _ _ _ _ _ _ _ _ _ _ _ _ cl' _ _ _; (have c1' := cl'.c1); (have cI' := cl'.I); (have c3' := cl'.t3); (try k_sweep))))
  (k_with "call ref" => ((k_here; (with_reducible show wpAny _ _ (call (Value.ref 445) _) _ _ _); k_dflt (refine' use_rnone ?Wz12 ?Bz12 ?Fz12 ?Nz12 ?hkz12 ?a1z12 ?mSz12 ?mdSz12 ?mTz12 ?mpgz12 ?mdpgz12 ?mfdz12 ?hdz12 ?loz12 tb_nil ?hfdz12 ?lo2z12 ?hmvz12 ?_; (case Fz12 => k_asm); (case Nz12 => k_asm); (case Wz12 => assumption); (case Bz12 => assumption); (case a1z12 => exact ⟨rfl, le_of_ble rfl, rfl, le_of_ble rfl⟩); (case hkz12 => exact ⟨rfl, rfl⟩); (case mSz12 => k_mem); (case mdSz12 => k_mem); (case mTz12 => k_mem); (case mpgz12 => k_mem); (case mdpgz12 => k_mem); (case mfdz12 => k_mem); (case hdz12 => assumption); (case loz12 => assumption); (case hfdz12 => assumption); (case lo2z12 => assumption); (case hmvz12 => exact rfl)); intro _ _ _ _ _; (try k_sweep))))
  trivial
set_option maxRecDepth 100000
set_option maxHeartbeats 8000000
theorem law_holds : PySem.Challenge.rw_nn0125_01.Holds := by
  refine hx (by rfl) (by rfl) (by rfl) ?_
  k_fill
  intro w s₀ s₁ mg mb G Y fa o pm cd doc dV kV ho hd hcd hD hmg hg args vals as hpre hlay hrd hwl hlo
  have X0 := kIn_of Y
  have V := (W.Ground.X G).2
  refine W.Ground.open G ?_
  intro T B D TE TW
  try (refine guard_noD D (by decide +kernel) ?_; clear D)
  kn_lay T hmg ho hd cd
  clear hmg
  wrow_args hpre hlay hrd hwl hlo
  first | refine callC_kw (enter_call ?_) | refine enter_call ?_
  w_top on
  kn_posts
  w_call any ho hd hcd hD T F
  clear hd
  rename News _ _ _ _ => N
  have X1 := ghost_K hT9 X0 (kx_notabs _)
  have T' := ghost_top hT9 T
  have K' := ghost_below hT9
  have N' := ghost_news hT9 F N
  have l0 := ghost_lt hT9 F
  have F' := ghost_fr hT9 F
  kn_lists hT9
  simp only [tabNews, List.map_cons, List.map_nil, List.nil_append, List.cons_append] at N'
  simp only [tabNews, List.map_cons, List.map_nil] at l0
  k_lt l0
  clear N F
  k_drop
  change wpAny (model PW w) _ _ _ _ _
  have W' : Wd w _ _ _ _ _ (ghostOf s₁.heap [(501, 497), (508, 504), (515, 511)]) := ⟨X1, T'⟩
  (try dsimp only); (try k_fold)
  repeat' ((fail_if_success (with_reducible show wpAny _ _ (call (Value.ref 502) _) _ _ _)); first | (k_unfold; (try dsimp only)) | walk1 | (dsimp only; walk1) | fail "no step")
  rename_i oc dcc X0b lft g1 L1 _ B1 X1b T1b _ D1 ws _ hIw _ _ _ _ _ _ hIy hLy CC _ _ _ P _ _ _ lP Tc kX _ _ _ _ _ _ _ _ _ _ _ _ I lI _ _ _ F N
  have ap : LAp P CC (s₁.heap.objs.size + 1) I := ⟨by k_ne, by k_ne, by k_ne, by k_ne, by k_ne, by k_ne, by k_ne, by k_ne, by k_ne, by k_ne, by k_ne, by k_ne, by k_ne, by k_ne, by k_ne⟩
  have hlen := len63 hIy
  refine' use_bh (P := P) (C := CC) (c1 := s₁.heap.objs.size + 1) (I := I) (oc := oc) (ys := ys) (Y := []) (spot := 0) (left := 0) (ps1 := #[]) (ps2 := #[]) W' K' F (fun q hq => N q ?mem) ⟨rfl, rfl⟩ ⟨rfl, le_of_ble rfl, rfl, le_of_ble rfl⟩ (.inl rfl) (.inl rfl) lclr_nil ap hIy hlen (by decide) (by decide) (by decide) ?_
  case mem =>
    revert q
    simp only [List.forall_mem_cons]
    exact ⟨by k_mem, by k_mem, by k_mem, by k_mem, by k_mem, by k_mem, by k_mem, fun _ h => nomatch h⟩
  clear N
  intro h2 tk2 sp1 lf1 nn1 k11 k12 psA Y1 F N st1 st2 cl1 x1 x2 x3
  have ya := cl1.c1
  have yb := cl1.I
  have yc := cl1.t3
  (try dsimp only); (try k_fold)
  repeat' ((fail_if_success (with_reducible show wpAny _ _ (eval (Expr.Lambda _ _ _ _) _) _ _ _)); first | (k_unfold; (try dsimp only)) | walk1 | (dsimp only; walk1) | fail "no step")
  rename_i R dR _ _ _ _ _ _ _ _ fd _ ofd loF hsF fsF hiF fiF lfd pg dpg k5 k6 _ _ _ _ _ _ _ oce F N dce
  refine' use_lam (clos := [("empty", s₁.heap.objs.size + 1)]) (qual := PySem.Str.ofString "law.<locals>.<lambda>") (P := 511) (c := 515) (ps := #[]) (Z := []) ?hdef ?hq F N W'.T (codeHd_of W'.X (hd_law _)) ?hcd ?U (.inl rfl) (fun _ h => nomatch h) ?hcl ?_
  case hdef => exact rfl
  case hq => exact rfl
  case hcd => exact rfl
  case U => k_updF
  case hcl => exact rfl
  clear F N
  intro f c' ocl vsl tl pmv ctv ps2 h6 tk6 F6 N6 hps hoc hov lf2 lc
  (try dsimp only at N6); (try dsimp only); (try k_fold)
  repeat' ((fail_if_success (with_reducible show wpAny _ _ (call (Value.ref 483) _) _ _ _)); first | (k_unfold; (try dsimp only)) | walk1 | (dsimp only; walk1) | fail "no step")
  refine use_okS0 (mt := []) (call_le (heard_ok (Post := fun _ _ => False) (Dn := True) (cx_of W' K' F6 ⟨rfl, rfl⟩) (dicts_cons ⟨rfl, rfl⟩ ktsDicts_nil F6) (FnAt.of N6 (.head _)) (lam_empty (f := f) (c' := c') (ce := s₁.heap.objs.size + 1) (pg := pg) (dpg := dpg) (fd := fd) (R := R) (k5 := k5) (k6 := k6) (oc := ocl) (oce := oce) (ofd := ofd) (qual := PySem.Str.ofString "law.<locals>.<lambda>") (pm := pmv) (ctv := ctv) (led_of ⟨rfl, rfl⟩ K' F6 N6 (by simp only [List.forall_mem_cons]; exact ⟨by k_mem, by k_mem, by k_mem, by k_mem, by k_mem, by k_mem, fun _ h => nomatch h⟩)) hoc hov dce hsF loF rfl)) rfl (le_of_ble rfl) rfl (le_of_ble rfl)) W' K' F6 N6 ⟨rfl, rfl⟩ (fun q hq => ⟨hq, fun h => nomatch h⟩) (fun a ha => nomatch ha) ?_
  intro r7 h7 tk7 nw7 F7 N7 hdis hp
  clear F6 N6 hdis lc lf2
  rcases hp with hF | ⟨-, rfl, kk, rfl⟩
  · exact hF.elim
  · simp only [List.nil_append] at N7
    (try dsimp only); (try k_fold)
    repeat' (first | (k_unfold; (try dsimp only)) | (k_end; wrow_close) | (k_end; close_w) | walk1 | (dsimp only; walk1) | fail "no step")
    all_goals w_report
end
end
end Mine
theorem PySem.Challenge.cw_nn0125_01_holds : PySem.Challenge.rw_nn0125_01.Holds :=
  Mine.law_holds
