import PyProof.Rows.All
import Wide.All
import OpenK.AllK
import Wide.FinOn
import KE.OsRunLaw
import HandS.ForMost
import HandS.More
import HandS.Wide
import HandS.Defaults
import HandS.Star
import HandS.SlotsOwn
import HandS.Exc
import HandS.WordsExc
import KE.KOpsOwn
import PyProof.InstNe
import HandS.OwnEq
import PyProof.ListMulRight
import HandS.IsInst
import PyProof.ReprRoads
import PyProof.ReprLen
import PyProof.CallFns
import HandS.ExcInit
import HandS.ExcField
import HandS.ExcIs
import HandS.Nested
import HandS.Lambda
import KE.KExcSuper
import HandS.EndTab
import HandS.EndOwn
import OpenK.KMeth
import KE.KCallOwn
import HandS.FStr
import HandS.MakeKwOnly
import HandS.MakeKw
import HandS.Zip
import KE.GoesZip
import KE.GoesMore
import HandS.Text
import HandS.Walk
import HandS.ClsMeth
import HandS.TryMany
import HandS.Style
import KE.GoesEnum
import PyProof.StrLawsRepr
import HandS.SortInts
import HandS.Conv
import PyProof.Rows.TupDisplay
import PyProof.FitsInt
import PyProof.Rows.StrRev
import HandS.Deep
import PyProof.P3In
import PyProof.RowDictHeap
import PyProof.ListNew
import HandS.Property
import PyProof.LongRange
import HandS.TupLen
import PyProof.ListStr
import HandS.Codes
import PyProof.RulesMatch
import PyProof.Rows.StrDigitsNeg
import HandS.Small
import HandS.TupMul
import KE.KSuper
import KE.KParD
import PyProof.DictUpdate
import HandS.GenYield
import HandS.GenList
import HandS.SetFor
import HandS.Strs
import HandS.SortKw
import KE.KSortKeySt
import PySem.Challenge.RW_heldfloods_k38_copies_by_pixels
set_option Elab.async false
set_option linter.all false
set_option maxRecDepth 100000
set_option maxHeartbeats 4000000
noncomputable section
namespace Hf
open PySem PySem.W PySem.Calls PyProof.Rows HeadRun
/-! ### the top's run in stages -/
/-- m steps of the top: the state and the thread behind them -/
def goK (st : SharedT → Thread → Option (SharedT × Thread)) (n0 : Nat) (ann : Option Value) : Nat → SharedT → Thread → Option (SharedT × Thread)
  | 0, s, t => some (s, t)
  | m + 1, s, t => match through t, stepOk n0 ann t with
    | false, true => (st s t).bind fun r => frS r.1 fun s' => goK st n0 ann m s' r.2
    | _, _ => none
theorem goK_goF {st : SharedT → Thread → Option (SharedT × Thread)} {n0 : Nat} {ann : Option Value} {b : Nat} : ∀ {a : Nat} {s s' : SharedT} {t t' : Thread}, goK st n0 ann a s t = some (s', t') → goF st n0 ann (a + b) s t = goF st n0 ann b s' t'
  | 0, s, s', t, t', h => by
    obtain ⟨rfl, rfl⟩ : s = s' ∧ t = t' := by simpa [goK] using h
    rw [Nat.zero_add]
  | a + 1, s, s', t, t', h => by
    rw [show a + 1 + b = (a + b) + 1 by omega]
    unfold goK at h
    conv => lhs; unfold goF
    cases h1 : through t with
    | true => rw [h1] at h; cases h
    | false =>
      cases h2 : stepOk n0 ann t with
      | false => rw [h1, h2] at h; cases h
      | true =>
        rw [h1, h2] at h
        cases h3 : st s t with
        | none => rw [h3] at h; cases h
        | some r =>
          obtain ⟨s2, t2⟩ := r
          rw [h3] at h
          simp only [Option.bind_some, frS_eq] at h
          simp only [frS_eq]
          exact goK_goF h
/-- the first a steps, from the boot -/
def startF (st : SharedT → Thread → Option (SharedT × Thread)) (a : Nat) (p : Program) (w : World) (os : OsState) : Option (Nat × SharedT × Thread) := (putAll (boot_heap w.params).objs.toList .nil 0).bind fun r =>
  frNat r.2 fun n0 => (goK st n0 (bootAnn w) a (bootT w os (r.1, n0)) (topStub p)).map fun x => (n0, x)
theorem startF_endF {st : SharedT → Thread → Option (SharedT × Thread)} {a b n0 : Nat} {p : Program} {w : World} {os : OsState} {s : SharedT} {t : Thread} (h : startF st a p w os = some (n0, s, t)) : endF st (a + b) p w os = goF st n0 (bootAnn w) b s t := by
  unfold startF at h
  unfold endF
  cases e : putAll (boot_heap w.params).objs.toList .nil 0 with
  | none => rw [e] at h; cases h
  | some r =>
    obtain ⟨T, n⟩ := r
    rw [e] at h
    simp only [Option.bind_some, frNat_eq] at h ⊢
    cases g : goK st n (bootAnn w) a (bootT w os (T, n)) (topStub p) with
    | none => rw [g] at h; cases h
    | some x =>
      obtain ⟨s', t'⟩ := x
      rw [g] at h
      obtain ⟨rfl, rfl, rfl⟩ : n = n0 ∧ s' = s ∧ t' = t := by simpa using h
      exact goK_goF g
end Hf
end
noncomputable section
namespace Hf
open PySem PySem.W PySem.Calls PyProof.Rows HeadRun
/-- the run's equation, in two stages -/
theorem run_of {r : OpenRow} {q : Program} {H : Hook} {ob : SharedT → H.α} {a b n0 : Nat} {loose : List PySem.Str} {w : World} {S : OsState → SharedT} {T : Thread} (h : ∀ os, startF (stepQ (denQ tabQ) r.prog w) a r.prog w os = some (n0, S os, T))
    (z : ∀ os, (goF (stepQ (denQ tabQ) r.prog w) n0 (bootAnn w) b (S os) T).map (fun s => (looksF r.prog (boot_heap w.params) s.abs, seenQ q loose (importedModules r.prog.main.body) (fun s => xlAt q [] s && recOk r.toRowW.records s) s.abs, ob s)) = some (true, openGood q loose, H.val w)) : RunEq r q H ob (a + b) loose w := fun os => by
  rw [startF_endF (h os)]
  exact z os
/-- two stages ahead are one -/
theorem start_go {st : SharedT → Thread → Option (SharedT × Thread)} {a b n0 : Nat} {p : Program} {w : World} {os : OsState} {s s' : SharedT} {t t' : Thread} (h : startF st a p w os = some (n0, s, t)) (g : goK st n0 (bootAnn w) b s t = some (s', t')) : startF st (a + b) p w os = some (n0, s', t') := by
  have split : ∀ {a : Nat} {s s1 : SharedT} {t t1 : Thread}, goK st n0 (bootAnn w) a s t = some (s1, t1) → goK st n0 (bootAnn w) b s1 t1 = some (s', t') → goK st n0 (bootAnn w) (a + b) s t = some (s', t') := by
    intro a
    induction a with
    | zero =>
      intro s s1 t t1 h g
      obtain ⟨rfl, rfl⟩ : s = s1 ∧ t = t1 := by simpa [goK] using h
      rw [Nat.zero_add]
      exact g
    | succ a ih =>
      intro s s1 t t1 h g
      rw [show a + 1 + b = (a + b) + 1 by omega]
      unfold goK at h ⊢
      cases h1 : through t with
      | true => rw [h1] at h; cases h
      | false =>
        cases h2 : stepOk n0 (bootAnn w) t with
        | false => rw [h1, h2] at h; cases h
        | true =>
          rw [h1, h2] at h
          cases h3 : st s t with
          | none => rw [h3] at h; cases h
          | some r =>
            obtain ⟨s2, t2⟩ := r
            rw [h3] at h
            simp only [Option.bind_some, frS_eq] at h ⊢
            exact ih h g
  unfold startF at h ⊢
  cases e : putAll (boot_heap w.params).objs.toList .nil 0 with
  | none => rw [e] at h; cases h
  | some r =>
    obtain ⟨T, n⟩ := r
    rw [e] at h
    simp only [Option.bind_some, frNat_eq] at h ⊢
    cases g1 : goK st n (bootAnn w) a (bootT w os (T, n)) (topStub p) with
    | none => rw [g1] at h; cases h
    | some x =>
      obtain ⟨s1, t1⟩ := x
      rw [g1] at h
      obtain ⟨rfl, rfl, rfl⟩ : n = n0 ∧ s1 = s ∧ t1 = t := by simpa using h
      rw [split g1 g]
      rfl
end Hf
end
noncomputable section
namespace Hf
open PySem PySem.W PySem.Calls PyProof.Rows HeadRun
theorem map_both {α β γ δ : Type} {o : Option α} {f : α → β} {g : α → γ} {h : α → δ} {x : β} {y : γ} {z : δ} (a : o.map (fun s => (f s, g s)) = some (x, y)) (b : o.map h = some z) : o.map (fun s => (f s, g s, h s)) = some (x, y, z) := by
  cases o with
  | none => cases a
  | some s =>
    simp only [Option.map_some, Option.some.injEq, Prod.mk.injEq] at a b ⊢
    exact ⟨a.1, a.2, b⟩
/-- the run's equation, in two stages, the look at the fragment apart -/
theorem run_of2 {r : OpenRow} {q : Program} {H : Hook} {ob : SharedT → H.α} {a b n0 : Nat} {loose : List PySem.Str} {w : World} {S : OsState → SharedT} {T : Thread} (h : ∀ os, startF (stepQ (denQ tabQ) r.prog w) a r.prog w os = some (n0, S os, T))
    (z : ∀ os, (goF (stepQ (denQ tabQ) r.prog w) n0 (bootAnn w) b (S os) T).map (fun s => (looksF r.prog (boot_heap w.params) s.abs, seenQ q loose (importedModules r.prog.main.body) (fun s => xlAt q [] s && recOk r.toRowW.records s) s.abs)) = some (true, openGood q loose))
    (y : ∀ os, (goF (stepQ (denQ tabQ) r.prog w) n0 (bootAnn w) b (S os) T).map ob = some (H.val w)) : RunEq r q H ob (a + b) loose w := run_of h fun os => map_both (z os) (y os)
end Hf
end
namespace Hf
theorem map_three {α β γ δ : Type} {o : Option α} {f : α → β} {g : α → γ × δ} {x : β} {y : γ × δ} (a : o.map f = some x) (b : o.map (fun s => (g s).1) = some y.1) (c : o.map (fun s => (g s).2) = some y.2) : o.map (fun s => (f s, g s)) = some (x, y) := by
  cases o with
  | none => cases a
  | some s =>
    simp only [Option.map_some, Option.some.injEq, Prod.mk.injEq] at a b c ⊢
    exact ⟨a, Prod.ext b c⟩
end Hf
noncomputable section
set_option maxHeartbeats 0
namespace Kx
open PySem PySem.W PySem.Calls PyProof.Rows HeadRun
abbrev R : OpenRow := OpenLaw.row PySem.Challenge.rw_heldfloods_k38_copies_by_pixels
abbrev qv : Program := view R.prog [0, 2, 3, 4, 5, 6, 7, 8, 9, 10, 12, 13, 14, 15, 16, 17, 18, 19, 23, 24, 26, 27, 28, 29, 30, 31, 33, 34, 35, 36, 37, 39, 40, 41, 42, 43, 44, 45, 46, 47, 48, 49, 50, 51, 52, 54, 55, 56, 57, 58, 59, 60, 61, 62, 63, 64, 65, 66, 67, 68, 69, 70, 71, 73, 75, 76, 77, 78, 79, 80, 81, 82, 83, 84, 85, 86, 87, 88, 89, 90, 91, 92, 93]
def names : List PySem.Str := ["MOST_PART", "Place", "from_left", "from_right", "from_middle", "Box", "Picture", "Deed", "Fill", "Frame", "Flood", "Copy", "Flip", "Swap", "Grow", "Again", "When", "Canvas"]
abbrev bE : List Stmt := behindTheImports R.prog
def tS (i : Nat) : Stmt := PySem.Challenge.pw_heldfloods_k38_copies_by_pixels.main.body.getD i (.Pass ⟨0, 0, 0, 0⟩)
def iC (i j : Nat) : Stmt := match tS i with
  | .ClassDef (body := b) .. => b.getD j (.Pass ⟨0, 0, 0, 0⟩)
  | s => s
def fA (s : Stmt) : Arguments := match s with
  | .FunctionDef (args := a) .. => a
  | _ => default
def fB (s : Stmt) : List Stmt := match s with
  | .FunctionDef (body := b) .. => b
  | _ => []
def fS (s : Stmt) : Scope := match s with
  | .FunctionDef (scope := c) .. => c
  | _ => default
def en (P : Params) (x : Str) (t : Nat) (v : Value) : DictEntry := ⟨PyData.keyHash P x, .str x t, v⟩
def nd (o : Obj) (l r : BT) : BT := .node o l r
def eV : Env := { scope := R.prog.main.scope, locals := mainNs, globals := mainNs, cells := [], code := .ref 13, frame := some 14 }
noncomputable def o0 (P : Params) : Obj := ⟨.type "dict", none, .dict #[en P "__name__" 1 (.str "builtins" 160), en P "__doc__" 2 (.builtin "builtins.__doc__:str#opaque"), en P "__package__" 3 (.builtin "builtins.__package__:str#opaque"), en P "__loader__" 4 (.builtin "builtins.__loader__:shared#opaque"), en P "__spec__" 5 (.builtin "builtins.__spec__#opaque"), en P "__build_class__" 6 (.builtin "__build_class__"), en P "__import__" 7 (.builtin "__import__"), en P "abs" 8 (.builtin "abs"), en P "all" 9 (.builtin "all"), en P "any" 10 (.builtin "any"), en P "ascii" 11 (.builtin "ascii"), en P "bin" 12 (.builtin "bin"), en P "breakpoint" 13 (.builtin "breakpoint"), en P "callable" 14 (.builtin "callable"), en P "chr" 15 (.builtin "chr"), en P "compile" 16 (.builtin "compile"), en P "delattr" 17 (.builtin "delattr"), en P "dir" 18 (.builtin "dir"), en P "divmod" 19 (.builtin "divmod"), en P "eval" 20 (.builtin "eval"), en P "exec" 21 (.builtin "exec"), en P "format" 22 (.builtin "format"), en P "getattr" 23 (.builtin "getattr"), en P "globals" 24 (.builtin "globals"), en P "hasattr" 25 (.builtin "hasattr"), en P "hash" 26 (.builtin "hash"), en P "hex" 27 (.builtin "hex"), en P "id" 28 (.builtin "id"), en P "input" 29 (.builtin "input"), en P "isinstance" 30 (.builtin "isinstance"), en P "issubclass" 31 (.builtin "issubclass"), en P "iter" 32 (.builtin "iter"), en P "aiter" 33 (.builtin "aiter"), en P "len" 34 (.builtin "len"), en P "locals" 35 (.builtin "locals"), en P "max" 36 (.builtin "max"), en P "min" 37 (.builtin "min"), en P "next" 38 (.builtin "next"), en P "anext" 39 (.builtin "anext"), en P "oct" 40 (.builtin "oct"), en P "ord" 41 (.builtin "ord"), en P "pow" 42 (.builtin "pow"), en P "print" 43 (.builtin "print"), en P "repr" 44 (.builtin "repr"), en P "round" 45 (.builtin "round"), en P "setattr" 46 (.builtin "setattr"), en P "sorted" 47 (.builtin "sorted"), en P "sum" 48 (.builtin "sum"), en P "vars" 49 (.builtin "vars"), en P "None" 50 (.none), en P "Ellipsis" 51 (.ellipsis), en P "NotImplemented" 52 (.notImplemented), en P "False" 53 (.bool false), en P "True" 54 (.bool true), en P "bool" 55 (.type "bool"), en P "memoryview" 56 (.type "memoryview"), en P "bytearray" 57 (.type "bytearray"), en P "bytes" 58 (.type "bytes"), en P "classmethod" 59 (.type "classmethod"), en P "complex" 60 (.type "complex"), en P "dict" 61 (.type "dict"), en P "enumerate" 62 (.type "enumerate"), en P "filter" 63 (.type "filter"), en P "float" 64 (.type "float"), en P "frozenset" 65 (.type "frozenset"), en P "property" 66 (.type "property"), en P "int" 67 (.type "int"), en P "list" 68 (.type "list"), en P "map" 69 (.type "map"), en P "object" 70 (.type "object"), en P "range" 71 (.type "range"), en P "reversed" 72 (.type "reversed"), en P "set" 73 (.type "set"), en P "slice" 74 (.type "slice"), en P "staticmethod" 75 (.type "staticmethod"), en P "str" 76 (.type "str"), en P "super" 77 (.type "super"), en P "tuple" 78 (.type "tuple"), en P "type" 79 (.type "type"), en P "zip" 80 (.type "zip"), en P "__debug__" 81 (.bool true), en P "BaseException" 82 (.type "BaseException"), en P "BaseExceptionGroup" 83 (.type "BaseExceptionGroup"), en P "Exception" 84 (.type "Exception"), en P "GeneratorExit" 85 (.type "GeneratorExit"), en P "KeyboardInterrupt" 86 (.type "KeyboardInterrupt"), en P "SystemExit" 87 (.type "SystemExit"), en P "ArithmeticError" 88 (.type "ArithmeticError"), en P "AssertionError" 89 (.type "AssertionError"), en P "AttributeError" 90 (.type "AttributeError"), en P "BufferError" 91 (.type "BufferError"), en P "EOFError" 92 (.type "EOFError"), en P "ImportError" 93 (.type "ImportError"), en P "LookupError" 94 (.type "LookupError"), en P "MemoryError" 95 (.type "MemoryError"), en P "NameError" 96 (.type "NameError"), en P "OSError" 97 (.type "OSError"), en P "ReferenceError" 98 (.type "ReferenceError"), en P "RuntimeError" 99 (.type "RuntimeError"), en P "StopAsyncIteration" 100 (.type "StopAsyncIteration"), en P "StopIteration" 101 (.type "StopIteration"), en P "SyntaxError" 102 (.type "SyntaxError"), en P "SystemError" 103 (.type "SystemError"), en P "TypeError" 104 (.type "TypeError"), en P "ValueError" 105 (.type "ValueError"), en P "Warning" 106 (.type "Warning"), en P "FloatingPointError" 107 (.type "FloatingPointError"), en P "OverflowError" 108 (.type "OverflowError"), en P "ZeroDivisionError" 109 (.type "ZeroDivisionError"), en P "BytesWarning" 110 (.type "BytesWarning"), en P "DeprecationWarning" 111 (.type "DeprecationWarning"), en P "EncodingWarning" 112 (.type "EncodingWarning"), en P "FutureWarning" 113 (.type "FutureWarning"), en P "ImportWarning" 114 (.type "ImportWarning"), en P "PendingDeprecationWarning" 115 (.type "PendingDeprecationWarning"), en P "ResourceWarning" 116 (.type "ResourceWarning"), en P "RuntimeWarning" 117 (.type "RuntimeWarning"), en P "SyntaxWarning" 118 (.type "SyntaxWarning"), en P "UnicodeWarning" 119 (.type "UnicodeWarning"), en P "UserWarning" 120 (.type "UserWarning"), en P "BlockingIOError" 121 (.type "BlockingIOError"), en P "ChildProcessError" 122 (.type "ChildProcessError"), en P "ConnectionError" 123 (.type "ConnectionError"), en P "FileExistsError" 124 (.type "FileExistsError"), en P "FileNotFoundError" 125 (.type "FileNotFoundError"), en P "InterruptedError" 126 (.type "InterruptedError"), en P "IsADirectoryError" 127 (.type "IsADirectoryError"), en P "NotADirectoryError" 128 (.type "NotADirectoryError"), en P "PermissionError" 129 (.type "PermissionError"), en P "ProcessLookupError" 130 (.type "ProcessLookupError"), en P "TimeoutError" 131 (.type "TimeoutError"), en P "IndentationError" 132 (.type "IndentationError"), en P "_IncompleteInputError" 133 (.type "_IncompleteInputError"), en P "IndexError" 134 (.type "IndexError"), en P "KeyError" 135 (.type "KeyError"), en P "ModuleNotFoundError" 136 (.type "ModuleNotFoundError"), en P "NotImplementedError" 137 (.type "NotImplementedError"), en P "PythonFinalizationError" 138 (.type "PythonFinalizationError"), en P "RecursionError" 139 (.type "RecursionError"), en P "UnboundLocalError" 140 (.type "UnboundLocalError"), en P "UnicodeError" 141 (.type "UnicodeError"), en P "BrokenPipeError" 142 (.type "BrokenPipeError"), en P "ConnectionAbortedError" 143 (.type "ConnectionAbortedError"), en P "ConnectionRefusedError" 144 (.type "ConnectionRefusedError"), en P "ConnectionResetError" 145 (.type "ConnectionResetError"), en P "TabError" 146 (.type "TabError"), en P "UnicodeDecodeError" 147 (.type "UnicodeDecodeError"), en P "UnicodeEncodeError" 148 (.type "UnicodeEncodeError"), en P "UnicodeTranslateError" 149 (.type "UnicodeTranslateError"), en P "ExceptionGroup" 150 (.type "ExceptionGroup"), en P "EnvironmentError" 151 (.type "OSError"), en P "IOError" 152 (.type "OSError"), en P "open" 153 (.builtin "open"), en P "quit" 154 (.builtin "builtins.quit#opaque"), en P "exit" 155 (.builtin "builtins.exit#opaque"), en P "copyright" 156 (.builtin "builtins.copyright#opaque"), en P "credits" 157 (.builtin "builtins.credits#opaque"), en P "license" 158 (.builtin "builtins.license#opaque"), en P "help" 159 (.builtin "builtins.help#opaque")] 159, #[]⟩
noncomputable def o1 (P : Params) : Obj := ⟨.type "dict", none, .dict #[en P "builtins" 162 (.ref 4), en P "__main__" 163 (.ref 5)] 2, #[]⟩
noncomputable def o2 (P : Params) : Obj := ⟨.none, none, .dict #[] 0, #[]⟩
noncomputable def o3 (P : Params) : Obj := ⟨.type "dict", none, .dict #[en P "__name__" 165 (.str "heldfloods.pictures" 868), en P "__doc__" 166 (.none), en P "__package__" 167 (.none), en P "__loader__" 168 (.builtin "__main__.__loader__#opaque"), en P "__spec__" 169 (.none), en P "__annotations__" 170 (.ref 6), en P "__builtins__" 171 (.ref 4), en P "__file__" 173 (.str "/claim/cut.py" 172), en P "__cached__" 174 (.none), en P "_wall" 193 (.ref 21), en P "HoldError" 213 (.ref 31), en P "BadPlace" 240 (.ref 53), en P "BadSize" 267 (.ref 74), en P "BadColour" 294 (.ref 95), en P "BadPixel" 323 (.ref 116), en P "BadPicture" 350 (.ref 137), en P "BadDeed" 377 (.ref 158), en P "Unlike" 402 (.ref 179), en P "BadText" 431 (.ref 200), en P "DIGITS_places" 435 (.str "0123456789" 434), en P "MOST_PART" 439 (.int (1000000000000) 438), en P "is_whole" 446 (.ref 209), en P "number_in" 452 (.ref 214), en P "value_at" 462 (.ref 221), en P "is_ahead" 471 (.ref 228), en P "Place" 620 (.ref 338), en P "need_offset" 627 (.ref 349), en P "from_left" 635 (.ref 357), en P "from_right" 643 (.ref 365), en P "from_middle" 651 (.ref 373), en P "place_of" 657 (.ref 378), en P "as_place" 663 (.ref 383), en P "need_place" 674 (.ref 390), en P "need_length" 682 (.ref 397), en P "Box" 787 (.ref 462), en P "pixels_in" 802 (.ref 473), en P "is_rim" 816 (.ref 480), en P "is_pixel" 826 (.ref 487), en P "BESIDE" 830 (.int (1000) 829), en P "is_inside" 839 (.ref 494), en P "beside" 847 (.ref 501), en P "spread" 861 (.ref 508), en P "in_order" 867 (.ref 513), en P "DIGITS_pictures" 871 (.str "0123456789" 870), en P "MOST_SIZE" 873 (.int (200) 872), en P "is_colour" 880 (.ref 520), en P "need_colour" 887 (.ref 527), en P "need_axis" 894 (.ref 534), en P "need_sizes" 904 (.ref 541), en P "need_pixel" 913 (.ref 548), en P "is_line" 919 (.ref 553), en P "wrong_line" 928 (.ref 560), en P "laid" 934 (.ref 565)] 53, #[]⟩
noncomputable def o4 (P : Params) : Obj := ⟨.type "module", some (0), .plain, #[]⟩
noncomputable def o5 (P : Params) : Obj := ⟨.type "module", some (3), .plain, #[]⟩
noncomputable def o6 (P : Params) : Obj := ⟨.type "dict", none, .dict #[] 0, #[]⟩
noncomputable def o7 (P : Params) : Obj := ⟨.type "tuple", none, .seq #[] 0, #[]⟩
noncomputable def o8 (P : Params) : Obj := ⟨.none, none, .fields #[], #[]⟩
noncomputable def o9 (P : Params) : Obj := ⟨.type "code", none, .fields #[.str "<module>" 176, .str "<module>" 177, .str "/claim/cut.py" 178, .int (1) 0, .int (0) 0, .int (0) 0, .int (0) 0, .int (0) 0, .ref 7, .bool false, .int (175) 0, .ref 8, .none, .none, .none, .none, .int (179) 0, .int (1) 0, .str "/claim/cut.py" 180], #[]⟩
noncomputable def o10 (P : Params) : Obj := ⟨.type "frame", none, .plain, #[some (.ref 9), some (.ref 3), some (.ref 3), none, some (.str "__main__" 164), none, some (.ref 0)]⟩
noncomputable def o11 (P : Params) : Obj := ⟨.none, none, .fields #[.int (1) 0, .int (0) 0, .ref 20, .int (5) 0, .int (0) 0, .ref 27, .int (7) 0, .int (0) 0, .ref 41, .int (12) 0, .int (0) 0, .ref 62, .int (17) 0, .int (0) 0, .ref 83, .int (22) 0, .int (0) 0, .ref 104, .int (28) 0, .int (0) 0, .ref 125, .int (33) 0, .int (0) 0, .ref 146, .int (38) 0, .int (0) 0, .ref 167, .int (42) 0, .int (0) 0, .ref 188, .int (51) 0, .int (0) 0, .ref 208, .int (53) 0, .int (0) 0, .ref 213, .int (59) 0, .int (0) 0, .ref 220, .int (61) 0, .int (0) 0, .ref 227, .int (63) 0, .int (0) 0, .ref 234, .int (144) 0, .int (0) 0, .ref 348, .int (147) 0, .int (0) 0, .ref 356, .int (150) 0, .int (0) 0, .ref 364, .int (153) 0, .int (0) 0, .ref 372, .int (156) 0, .int (0) 0, .ref 377, .int (169) 0, .int (0) 0, .ref 382, .int (176) 0, .int (0) 0, .ref 389, .int (181) 0, .int (0) 0, .ref 396, .int (184) 0, .int (0) 0, .ref 403, .int (215) 0, .int (0) 0, .ref 472, .int (220) 0, .int (0) 0, .ref 479, .int (223) 0, .int (0) 0, .ref 486, .int (227) 0, .int (0) 0, .ref 493, .int (229) 0, .int (0) 0, .ref 500, .int (231) 0, .int (0) 0, .ref 507, .int (243) 0, .int (0) 0, .ref 512, .int (248) 0, .int (0) 0, .ref 519, .int (250) 0, .int (0) 0, .ref 526, .int (253) 0, .int (0) 0, .ref 533, .int (256) 0, .int (0) 0, .ref 540, .int (260) 0, .int (0) 0, .ref 547, .int (263) 0, .int (0) 0, .ref 552, .int (267) 0, .int (0) 0, .ref 559, .int (272) 0, .int (0) 0, .ref 564], #[]⟩
noncomputable def o12 (P : Params) : Obj := ⟨.type "code", none, .fields #[.str "<module>" 182, .str "<module>" 183, .str "/claim/cut.py" 184, .int (1) 0, .int (0) 0, .int (0) 0, .int (0) 0, .int (0) 0, .ref 11, .bool false, .int (181) 0, .ref 12, .none, .none, .none, .none, .int (185) 0, .int (1) 0, .str "/claim/cut.py" 186], #[]⟩
noncomputable def o13 (P : Params) : Obj := ⟨.type "frame", none, .plain, #[some (.ref 13), some (.ref 3), some (.ref 3), none, some (.str "__main__" 164), none, some (.ref 0)]⟩
noncomputable def o14 (P : Params) : Obj := ⟨.type "tuple", none, .seq #[.str "k" 190] 0, #[]⟩
noncomputable def o15 (P : Params) : Obj := ⟨.none, none, .func ⟨"_wall", "_wall", (fA (tS 0)), (.stmts (fB (tS 0))), (fS (tS 0)), 0, [], .none, .none, .none, .none, none, .none, .none, 0⟩, #[]⟩
noncomputable def o16 (P : Params) : Obj := ⟨.type "code", none, .fields #[.str "_wall" 187, .str "_wall" 188, .str "/claim/cut.py" 189, .int (1) 0, .int (1) 0, .int (0) 0, .int (0) 0, .int (3) 0, .ref 15, .bool true, .int (181) 0, .ref 16, .none, .ref 17, .ref 18, .ref 19, .int (191) 0, .int (1) 0, .str "/claim/cut.py" 192], #[]⟩
noncomputable def o17 (P : Params) : Obj := ⟨.type "function", none, .func ⟨"_wall", "_wall", (fA (tS 0)), (.stmts (fB (tS 0))), (fS (tS 0)), 3, [], .none, .none, .none, .str "__main__" 164, none, .ref 20, .none, 0⟩, #[]⟩
noncomputable def o18 (P : Params) : Obj := ⟨.type "tuple", none, .seq #[.type "ValueError"] 0, #[]⟩
noncomputable def o19 (P : Params) : Obj := ⟨.type "builtin_function_or_method", none, .fields #[.builtin "type.__prepare__", .type "type"], #[]⟩
noncomputable def o20 (P : Params) : Obj := ⟨.type "dict", none, .dict #[en P "__module__" 203 (.str "heldfloods.errors" 194), en P "__qualname__" 205 (.str "HoldError" 204), en P "__firstlineno__" 207 (.int (5) 206), en P "__static_attributes__" 208 (.ref 29)] 4, #[]⟩
noncomputable def o21 (P : Params) : Obj := ⟨.type "code", none, .fields #[.str "HoldError" 198, .str "HoldError" 199, .str "/claim/cut.py" 200, .int (5) 0, .int (0) 0, .int (0) 0, .int (0) 0, .int (0) 0, .ref 25, .bool false, .int (181) 0, .ref 26, .none, .none, .none, .none, .int (201) 0, .int (5) 0, .str "/claim/cut.py" 202], #[]⟩
noncomputable def o22 (P : Params) : Obj := ⟨.type "frame", none, .plain, #[some (.ref 27), some (.ref 3), some (.ref 24), none, some (.str "heldfloods.errors" 194), none, some (.ref 0)]⟩
noncomputable def o23 (P : Params) : Obj := ⟨.type "dict", none, .dict #[en P "__module__" 203 (.str "heldfloods.errors" 194), en P "__firstlineno__" 207 (.int (5) 206), en P "__static_attributes__" 208 (.ref 29), en P "__weakref__" 210 (.ref 32), en P "__doc__" 211 (.none)] 3, #[]⟩
noncomputable def o24 (P : Params) : Obj := ⟨.type "type", none, .cls ⟨"HoldError", [.type "ValueError"], [.ref 31, .type "ValueError", .type "Exception", .type "BaseException", .type "object"], 30, "HoldError", true, [], [.ref 53, .ref 74, .ref 95, .ref 116, .ref 137, .ref 158, .ref 179, .ref 200], false, none, false⟩, #[some (.ref 22), none, some (.str "HoldError" 196), some (.str "HoldError" 204), some (.builtin "ValueError.__new__"), some (.bool true)]⟩
noncomputable def o25 (P : Params) : Obj := ⟨.type "getset_descriptor", none, .fields #[.str "__weakref__" 209, .ref 31, .builtin "ExceptionGroup.__weakref__", .none], #[]⟩
noncomputable def o26 (P : Params) : Obj := ⟨.type "super", none, .fields #[.ref 31, .ref 31, .ref 31], #[]⟩
noncomputable def o27 (P : Params) : Obj := ⟨.type "builtin_function_or_method", none, .fields #[.builtin "object.__init_subclass__", .ref 31], #[]⟩
noncomputable def o28 (P : Params) : Obj := ⟨.type "tuple", none, .seq #[.ref 31] 0, #[]⟩
noncomputable def o29 (P : Params) : Obj := ⟨.type "dict", none, .dict #[en P "__module__" 221 (.str "heldfloods.errors" 194), en P "__qualname__" 223 (.str "BadPlace" 222), en P "__firstlineno__" 225 (.int (7) 224), en P "__init__" 234 (.ref 50), en P "__static_attributes__" 236 (.ref 51), en P "__classcell__" 237 (.ref 38)] 6, #[]⟩
noncomputable def o30 (P : Params) : Obj := ⟨.type "cell", none, .cell (some (.ref 53)), #[]⟩
noncomputable def o31 (P : Params) : Obj := ⟨.none, none, .fields #[.int (9) 0, .int (4) 0, .ref 49], #[]⟩
noncomputable def o32 (P : Params) : Obj := ⟨.type "code", none, .fields #[.str "BadPlace" 216, .str "BadPlace" 217, .str "/claim/cut.py" 218, .int (7) 0, .int (0) 0, .int (0) 0, .int (0) 0, .int (0) 0, .ref 39, .bool false, .int (181) 0, .ref 40, .none, .none, .none, .none, .int (219) 0, .int (7) 0, .str "/claim/cut.py" 220], #[]⟩
noncomputable def o33 (P : Params) : Obj := ⟨.type "frame", none, .plain, #[some (.ref 41), some (.ref 3), some (.ref 37), none, some (.str "heldfloods.errors" 194), none, some (.ref 0)]⟩
noncomputable def o34 (P : Params) : Obj := ⟨.type "tuple", none, .seq #[.ref 38] 0, #[]⟩
noncomputable def o35 (P : Params) : Obj := ⟨.type "tuple", none, .seq #[.str "__class__" 229] 0, #[]⟩
noncomputable def o36 (P : Params) : Obj := ⟨.type "tuple", none, .seq #[.str "self" 230, .str "part" 231] 0, #[]⟩
noncomputable def o37 (P : Params) : Obj := ⟨.none, none, .func ⟨"__init__", "BadPlace.__init__", (fA (iC 3 0)), (.stmts (fB (iC 3 0))), (fS (iC 3 0)), 0, [], .none, .none, .none, .none, none, .none, .none, 0⟩, #[]⟩
noncomputable def o38 (P : Params) : Obj := ⟨.type "code", none, .fields #[.str "__init__" 226, .str "BadPlace.__init__" 227, .str "/claim/cut.py" 228, .int (9) 0, .int (2) 0, .int (0) 0, .int (0) 0, .int (3) 0, .ref 44, .bool true, .int (181) 0, .ref 45, .none, .ref 46, .ref 47, .ref 48, .int (232) 0, .int (9) 0, .str "/claim/cut.py" 233], #[]⟩
noncomputable def o39 (P : Params) : Obj := ⟨.type "function", none, .func ⟨"__init__", "BadPlace.__init__", (fA (iC 3 0)), (.stmts (fB (iC 3 0))), (fS (iC 3 0)), 3, [("__class__", 38)], .none, .none, .none, .str "heldfloods.errors" 194, none, .ref 49, .ref 43, 0⟩, #[]⟩
noncomputable def o40 (P : Params) : Obj := ⟨.type "tuple", none, .seq #[.str "part" 235] 0, #[]⟩
noncomputable def o41 (P : Params) : Obj := ⟨.type "dict", none, .dict #[en P "__module__" 221 (.str "heldfloods.errors" 194), en P "__firstlineno__" 225 (.int (7) 224), en P "__init__" 234 (.ref 50), en P "__static_attributes__" 236 (.ref 51), en P "__doc__" 238 (.none)] 3, #[]⟩
noncomputable def o42 (P : Params) : Obj := ⟨.type "type", none, .cls ⟨"BadPlace", [.ref 31], [.ref 53, .ref 31, .type "ValueError", .type "Exception", .type "BaseException", .type "object"], 52, "BadPlace", true, [], [], false, none, false⟩, #[some (.ref 35), none, some (.str "BadPlace" 214), some (.str "BadPlace" 222), some (.builtin "ValueError.__new__"), some (.bool true)]⟩
noncomputable def o43 (P : Params) : Obj := ⟨.type "super", none, .fields #[.ref 53, .ref 53, .ref 53], #[]⟩
noncomputable def o44 (P : Params) : Obj := ⟨.type "builtin_function_or_method", none, .fields #[.builtin "object.__init_subclass__", .ref 53], #[]⟩
noncomputable def o45 (P : Params) : Obj := ⟨.type "dict", none, .dict #[en P "__module__" 248 (.str "heldfloods.errors" 194), en P "__qualname__" 250 (.str "BadSize" 249), en P "__firstlineno__" 252 (.int (12) 251), en P "__init__" 261 (.ref 71), en P "__static_attributes__" 263 (.ref 72), en P "__classcell__" 264 (.ref 59)] 6, #[]⟩
noncomputable def o46 (P : Params) : Obj := ⟨.type "cell", none, .cell (some (.ref 74)), #[]⟩
noncomputable def o47 (P : Params) : Obj := ⟨.none, none, .fields #[.int (14) 0, .int (4) 0, .ref 70], #[]⟩
noncomputable def o48 (P : Params) : Obj := ⟨.type "code", none, .fields #[.str "BadSize" 243, .str "BadSize" 244, .str "/claim/cut.py" 245, .int (12) 0, .int (0) 0, .int (0) 0, .int (0) 0, .int (0) 0, .ref 60, .bool false, .int (181) 0, .ref 61, .none, .none, .none, .none, .int (246) 0, .int (12) 0, .str "/claim/cut.py" 247], #[]⟩
noncomputable def o49 (P : Params) : Obj := ⟨.type "frame", none, .plain, #[some (.ref 62), some (.ref 3), some (.ref 58), none, some (.str "heldfloods.errors" 194), none, some (.ref 0)]⟩
noncomputable def o50 (P : Params) : Obj := ⟨.type "tuple", none, .seq #[.ref 59] 0, #[]⟩
noncomputable def o51 (P : Params) : Obj := ⟨.type "tuple", none, .seq #[.str "__class__" 256] 0, #[]⟩
noncomputable def o52 (P : Params) : Obj := ⟨.type "tuple", none, .seq #[.str "self" 257, .str "part" 258] 0, #[]⟩
noncomputable def o53 (P : Params) : Obj := ⟨.none, none, .func ⟨"__init__", "BadSize.__init__", (fA (iC 4 0)), (.stmts (fB (iC 4 0))), (fS (iC 3 0)), 0, [], .none, .none, .none, .none, none, .none, .none, 0⟩, #[]⟩
noncomputable def o54 (P : Params) : Obj := ⟨.type "code", none, .fields #[.str "__init__" 253, .str "BadSize.__init__" 254, .str "/claim/cut.py" 255, .int (14) 0, .int (2) 0, .int (0) 0, .int (0) 0, .int (3) 0, .ref 65, .bool true, .int (181) 0, .ref 66, .none, .ref 67, .ref 68, .ref 69, .int (259) 0, .int (14) 0, .str "/claim/cut.py" 260], #[]⟩
noncomputable def o55 (P : Params) : Obj := ⟨.type "function", none, .func ⟨"__init__", "BadSize.__init__", (fA (iC 4 0)), (.stmts (fB (iC 4 0))), (fS (iC 3 0)), 3, [("__class__", 59)], .none, .none, .none, .str "heldfloods.errors" 194, none, .ref 70, .ref 64, 0⟩, #[]⟩
noncomputable def o56 (P : Params) : Obj := ⟨.type "tuple", none, .seq #[.str "part" 262] 0, #[]⟩
noncomputable def o57 (P : Params) : Obj := ⟨.type "dict", none, .dict #[en P "__module__" 248 (.str "heldfloods.errors" 194), en P "__firstlineno__" 252 (.int (12) 251), en P "__init__" 261 (.ref 71), en P "__static_attributes__" 263 (.ref 72), en P "__doc__" 265 (.none)] 3, #[]⟩
noncomputable def o58 (P : Params) : Obj := ⟨.type "type", none, .cls ⟨"BadSize", [.ref 31], [.ref 74, .ref 31, .type "ValueError", .type "Exception", .type "BaseException", .type "object"], 73, "BadSize", true, [], [], false, none, false⟩, #[some (.ref 56), none, some (.str "BadSize" 241), some (.str "BadSize" 249), some (.builtin "ValueError.__new__"), some (.bool true)]⟩
noncomputable def o59 (P : Params) : Obj := ⟨.type "super", none, .fields #[.ref 74, .ref 74, .ref 74], #[]⟩
noncomputable def o60 (P : Params) : Obj := ⟨.type "builtin_function_or_method", none, .fields #[.builtin "object.__init_subclass__", .ref 74], #[]⟩
noncomputable def o61 (P : Params) : Obj := ⟨.type "dict", none, .dict #[en P "__module__" 275 (.str "heldfloods.errors" 194), en P "__qualname__" 277 (.str "BadColour" 276), en P "__firstlineno__" 279 (.int (17) 278), en P "__init__" 288 (.ref 92), en P "__static_attributes__" 290 (.ref 93), en P "__classcell__" 291 (.ref 80)] 6, #[]⟩
noncomputable def o62 (P : Params) : Obj := ⟨.type "cell", none, .cell (some (.ref 95)), #[]⟩
noncomputable def o63 (P : Params) : Obj := ⟨.none, none, .fields #[.int (19) 0, .int (4) 0, .ref 91], #[]⟩
noncomputable def o64 (P : Params) : Obj := ⟨.type "code", none, .fields #[.str "BadColour" 270, .str "BadColour" 271, .str "/claim/cut.py" 272, .int (17) 0, .int (0) 0, .int (0) 0, .int (0) 0, .int (0) 0, .ref 81, .bool false, .int (181) 0, .ref 82, .none, .none, .none, .none, .int (273) 0, .int (17) 0, .str "/claim/cut.py" 274], #[]⟩
noncomputable def o65 (P : Params) : Obj := ⟨.type "frame", none, .plain, #[some (.ref 83), some (.ref 3), some (.ref 79), none, some (.str "heldfloods.errors" 194), none, some (.ref 0)]⟩
noncomputable def o66 (P : Params) : Obj := ⟨.type "tuple", none, .seq #[.ref 80] 0, #[]⟩
noncomputable def o67 (P : Params) : Obj := ⟨.type "tuple", none, .seq #[.str "__class__" 283] 0, #[]⟩
noncomputable def o68 (P : Params) : Obj := ⟨.type "tuple", none, .seq #[.str "self" 284, .str "value" 285] 0, #[]⟩
noncomputable def o69 (P : Params) : Obj := ⟨.none, none, .func ⟨"__init__", "BadColour.__init__", (fA (iC 5 0)), (.stmts (fB (iC 5 0))), (fS (iC 5 0)), 0, [], .none, .none, .none, .none, none, .none, .none, 0⟩, #[]⟩
noncomputable def o70 (P : Params) : Obj := ⟨.type "code", none, .fields #[.str "__init__" 280, .str "BadColour.__init__" 281, .str "/claim/cut.py" 282, .int (19) 0, .int (2) 0, .int (0) 0, .int (0) 0, .int (3) 0, .ref 86, .bool true, .int (181) 0, .ref 87, .none, .ref 88, .ref 89, .ref 90, .int (286) 0, .int (19) 0, .str "/claim/cut.py" 287], #[]⟩
noncomputable def o71 (P : Params) : Obj := ⟨.type "function", none, .func ⟨"__init__", "BadColour.__init__", (fA (iC 5 0)), (.stmts (fB (iC 5 0))), (fS (iC 5 0)), 3, [("__class__", 80)], .none, .none, .none, .str "heldfloods.errors" 194, none, .ref 91, .ref 85, 0⟩, #[]⟩
noncomputable def o72 (P : Params) : Obj := ⟨.type "tuple", none, .seq #[.str "value" 289] 0, #[]⟩
noncomputable def o73 (P : Params) : Obj := ⟨.type "dict", none, .dict #[en P "__module__" 275 (.str "heldfloods.errors" 194), en P "__firstlineno__" 279 (.int (17) 278), en P "__init__" 288 (.ref 92), en P "__static_attributes__" 290 (.ref 93), en P "__doc__" 292 (.none)] 3, #[]⟩
noncomputable def o74 (P : Params) : Obj := ⟨.type "type", none, .cls ⟨"BadColour", [.ref 31], [.ref 95, .ref 31, .type "ValueError", .type "Exception", .type "BaseException", .type "object"], 94, "BadColour", true, [], [], false, none, false⟩, #[some (.ref 77), none, some (.str "BadColour" 268), some (.str "BadColour" 276), some (.builtin "ValueError.__new__"), some (.bool true)]⟩
noncomputable def o75 (P : Params) : Obj := ⟨.type "super", none, .fields #[.ref 95, .ref 95, .ref 95], #[]⟩
noncomputable def o76 (P : Params) : Obj := ⟨.type "builtin_function_or_method", none, .fields #[.builtin "object.__init_subclass__", .ref 95], #[]⟩
noncomputable def o77 (P : Params) : Obj := ⟨.type "dict", none, .dict #[en P "__module__" 302 (.str "heldfloods.errors" 194), en P "__qualname__" 304 (.str "BadPixel" 303), en P "__firstlineno__" 306 (.int (22) 305), en P "__init__" 316 (.ref 113), en P "__static_attributes__" 319 (.ref 114), en P "__classcell__" 320 (.ref 101)] 6, #[]⟩
noncomputable def o78 (P : Params) : Obj := ⟨.type "cell", none, .cell (some (.ref 116)), #[]⟩
noncomputable def o79 (P : Params) : Obj := ⟨.none, none, .fields #[.int (24) 0, .int (4) 0, .ref 112], #[]⟩
noncomputable def o80 (P : Params) : Obj := ⟨.type "code", none, .fields #[.str "BadPixel" 297, .str "BadPixel" 298, .str "/claim/cut.py" 299, .int (22) 0, .int (0) 0, .int (0) 0, .int (0) 0, .int (0) 0, .ref 102, .bool false, .int (181) 0, .ref 103, .none, .none, .none, .none, .int (300) 0, .int (22) 0, .str "/claim/cut.py" 301], #[]⟩
noncomputable def o81 (P : Params) : Obj := ⟨.type "frame", none, .plain, #[some (.ref 104), some (.ref 3), some (.ref 100), none, some (.str "heldfloods.errors" 194), none, some (.ref 0)]⟩
noncomputable def o82 (P : Params) : Obj := ⟨.type "tuple", none, .seq #[.ref 101] 0, #[]⟩
noncomputable def o83 (P : Params) : Obj := ⟨.type "tuple", none, .seq #[.str "__class__" 310] 0, #[]⟩
noncomputable def o84 (P : Params) : Obj := ⟨.type "tuple", none, .seq #[.str "self" 311, .str "x" 312, .str "y" 313] 0, #[]⟩
noncomputable def o85 (P : Params) : Obj := ⟨.none, none, .func ⟨"__init__", "BadPixel.__init__", (fA (iC 6 0)), (.stmts (fB (iC 6 0))), (fS (iC 6 0)), 0, [], .none, .none, .none, .none, none, .none, .none, 0⟩, #[]⟩
noncomputable def o86 (P : Params) : Obj := ⟨.type "code", none, .fields #[.str "__init__" 307, .str "BadPixel.__init__" 308, .str "/claim/cut.py" 309, .int (24) 0, .int (3) 0, .int (0) 0, .int (0) 0, .int (3) 0, .ref 107, .bool true, .int (181) 0, .ref 108, .none, .ref 109, .ref 110, .ref 111, .int (314) 0, .int (24) 0, .str "/claim/cut.py" 315], #[]⟩
noncomputable def o87 (P : Params) : Obj := ⟨.type "function", none, .func ⟨"__init__", "BadPixel.__init__", (fA (iC 6 0)), (.stmts (fB (iC 6 0))), (fS (iC 6 0)), 3, [("__class__", 101)], .none, .none, .none, .str "heldfloods.errors" 194, none, .ref 112, .ref 106, 0⟩, #[]⟩
noncomputable def o88 (P : Params) : Obj := ⟨.type "tuple", none, .seq #[.str "x" 317, .str "y" 318] 0, #[]⟩
noncomputable def o89 (P : Params) : Obj := ⟨.type "dict", none, .dict #[en P "__module__" 302 (.str "heldfloods.errors" 194), en P "__firstlineno__" 306 (.int (22) 305), en P "__init__" 316 (.ref 113), en P "__static_attributes__" 319 (.ref 114), en P "__doc__" 321 (.none)] 3, #[]⟩
noncomputable def o90 (P : Params) : Obj := ⟨.type "type", none, .cls ⟨"BadPixel", [.ref 31], [.ref 116, .ref 31, .type "ValueError", .type "Exception", .type "BaseException", .type "object"], 115, "BadPixel", true, [], [], false, none, false⟩, #[some (.ref 98), none, some (.str "BadPixel" 295), some (.str "BadPixel" 303), some (.builtin "ValueError.__new__"), some (.bool true)]⟩
noncomputable def o91 (P : Params) : Obj := ⟨.type "super", none, .fields #[.ref 116, .ref 116, .ref 116], #[]⟩
noncomputable def o92 (P : Params) : Obj := ⟨.type "builtin_function_or_method", none, .fields #[.builtin "object.__init_subclass__", .ref 116], #[]⟩
noncomputable def o93 (P : Params) : Obj := ⟨.type "dict", none, .dict #[en P "__module__" 331 (.str "heldfloods.errors" 194), en P "__qualname__" 333 (.str "BadPicture" 332), en P "__firstlineno__" 335 (.int (28) 334), en P "__init__" 344 (.ref 134), en P "__static_attributes__" 346 (.ref 135), en P "__classcell__" 347 (.ref 122)] 6, #[]⟩
noncomputable def o94 (P : Params) : Obj := ⟨.type "cell", none, .cell (some (.ref 137)), #[]⟩
noncomputable def o95 (P : Params) : Obj := ⟨.none, none, .fields #[.int (30) 0, .int (4) 0, .ref 133], #[]⟩
noncomputable def o96 (P : Params) : Obj := ⟨.type "code", none, .fields #[.str "BadPicture" 326, .str "BadPicture" 327, .str "/claim/cut.py" 328, .int (28) 0, .int (0) 0, .int (0) 0, .int (0) 0, .int (0) 0, .ref 123, .bool false, .int (181) 0, .ref 124, .none, .none, .none, .none, .int (329) 0, .int (28) 0, .str "/claim/cut.py" 330], #[]⟩
noncomputable def o97 (P : Params) : Obj := ⟨.type "frame", none, .plain, #[some (.ref 125), some (.ref 3), some (.ref 121), none, some (.str "heldfloods.errors" 194), none, some (.ref 0)]⟩
noncomputable def o98 (P : Params) : Obj := ⟨.type "tuple", none, .seq #[.ref 122] 0, #[]⟩
noncomputable def o99 (P : Params) : Obj := ⟨.type "tuple", none, .seq #[.str "__class__" 339] 0, #[]⟩
noncomputable def o100 (P : Params) : Obj := ⟨.type "tuple", none, .seq #[.str "self" 340, .str "row" 341] 0, #[]⟩
noncomputable def o101 (P : Params) : Obj := ⟨.none, none, .func ⟨"__init__", "BadPicture.__init__", (fA (iC 7 0)), (.stmts (fB (iC 7 0))), (fS (iC 7 0)), 0, [], .none, .none, .none, .none, none, .none, .none, 0⟩, #[]⟩
noncomputable def o102 (P : Params) : Obj := ⟨.type "code", none, .fields #[.str "__init__" 336, .str "BadPicture.__init__" 337, .str "/claim/cut.py" 338, .int (30) 0, .int (2) 0, .int (0) 0, .int (0) 0, .int (3) 0, .ref 128, .bool true, .int (181) 0, .ref 129, .none, .ref 130, .ref 131, .ref 132, .int (342) 0, .int (30) 0, .str "/claim/cut.py" 343], #[]⟩
noncomputable def o103 (P : Params) : Obj := ⟨.type "function", none, .func ⟨"__init__", "BadPicture.__init__", (fA (iC 7 0)), (.stmts (fB (iC 7 0))), (fS (iC 7 0)), 3, [("__class__", 122)], .none, .none, .none, .str "heldfloods.errors" 194, none, .ref 133, .ref 127, 0⟩, #[]⟩
noncomputable def o104 (P : Params) : Obj := ⟨.type "tuple", none, .seq #[.str "row" 345] 0, #[]⟩
noncomputable def o105 (P : Params) : Obj := ⟨.type "dict", none, .dict #[en P "__module__" 331 (.str "heldfloods.errors" 194), en P "__firstlineno__" 335 (.int (28) 334), en P "__init__" 344 (.ref 134), en P "__static_attributes__" 346 (.ref 135), en P "__doc__" 348 (.none)] 3, #[]⟩
noncomputable def o106 (P : Params) : Obj := ⟨.type "type", none, .cls ⟨"BadPicture", [.ref 31], [.ref 137, .ref 31, .type "ValueError", .type "Exception", .type "BaseException", .type "object"], 136, "BadPicture", true, [], [], false, none, false⟩, #[some (.ref 119), none, some (.str "BadPicture" 324), some (.str "BadPicture" 332), some (.builtin "ValueError.__new__"), some (.bool true)]⟩
noncomputable def o107 (P : Params) : Obj := ⟨.type "super", none, .fields #[.ref 137, .ref 137, .ref 137], #[]⟩
noncomputable def o108 (P : Params) : Obj := ⟨.type "builtin_function_or_method", none, .fields #[.builtin "object.__init_subclass__", .ref 137], #[]⟩
noncomputable def o109 (P : Params) : Obj := ⟨.type "dict", none, .dict #[en P "__module__" 358 (.str "heldfloods.errors" 194), en P "__qualname__" 360 (.str "BadDeed" 359), en P "__firstlineno__" 362 (.int (33) 361), en P "__init__" 371 (.ref 155), en P "__static_attributes__" 373 (.ref 156), en P "__classcell__" 374 (.ref 143)] 6, #[]⟩
noncomputable def o110 (P : Params) : Obj := ⟨.type "cell", none, .cell (some (.ref 158)), #[]⟩
noncomputable def o111 (P : Params) : Obj := ⟨.none, none, .fields #[.int (35) 0, .int (4) 0, .ref 154], #[]⟩
noncomputable def o112 (P : Params) : Obj := ⟨.type "code", none, .fields #[.str "BadDeed" 353, .str "BadDeed" 354, .str "/claim/cut.py" 355, .int (33) 0, .int (0) 0, .int (0) 0, .int (0) 0, .int (0) 0, .ref 144, .bool false, .int (181) 0, .ref 145, .none, .none, .none, .none, .int (356) 0, .int (33) 0, .str "/claim/cut.py" 357], #[]⟩
noncomputable def o113 (P : Params) : Obj := ⟨.type "frame", none, .plain, #[some (.ref 146), some (.ref 3), some (.ref 142), none, some (.str "heldfloods.errors" 194), none, some (.ref 0)]⟩
noncomputable def o114 (P : Params) : Obj := ⟨.type "tuple", none, .seq #[.ref 143] 0, #[]⟩
noncomputable def o115 (P : Params) : Obj := ⟨.type "tuple", none, .seq #[.str "__class__" 366] 0, #[]⟩
noncomputable def o116 (P : Params) : Obj := ⟨.type "tuple", none, .seq #[.str "self" 367, .str "part" 368] 0, #[]⟩
noncomputable def o117 (P : Params) : Obj := ⟨.none, none, .func ⟨"__init__", "BadDeed.__init__", (fA (iC 8 0)), (.stmts (fB (iC 8 0))), (fS (iC 3 0)), 0, [], .none, .none, .none, .none, none, .none, .none, 0⟩, #[]⟩
noncomputable def o118 (P : Params) : Obj := ⟨.type "code", none, .fields #[.str "__init__" 363, .str "BadDeed.__init__" 364, .str "/claim/cut.py" 365, .int (35) 0, .int (2) 0, .int (0) 0, .int (0) 0, .int (3) 0, .ref 149, .bool true, .int (181) 0, .ref 150, .none, .ref 151, .ref 152, .ref 153, .int (369) 0, .int (35) 0, .str "/claim/cut.py" 370], #[]⟩
noncomputable def o119 (P : Params) : Obj := ⟨.type "function", none, .func ⟨"__init__", "BadDeed.__init__", (fA (iC 8 0)), (.stmts (fB (iC 8 0))), (fS (iC 3 0)), 3, [("__class__", 143)], .none, .none, .none, .str "heldfloods.errors" 194, none, .ref 154, .ref 148, 0⟩, #[]⟩
noncomputable def o120 (P : Params) : Obj := ⟨.type "tuple", none, .seq #[.str "part" 372] 0, #[]⟩
noncomputable def o121 (P : Params) : Obj := ⟨.type "dict", none, .dict #[en P "__module__" 358 (.str "heldfloods.errors" 194), en P "__firstlineno__" 362 (.int (33) 361), en P "__init__" 371 (.ref 155), en P "__static_attributes__" 373 (.ref 156), en P "__doc__" 375 (.none)] 3, #[]⟩
noncomputable def o122 (P : Params) : Obj := ⟨.type "type", none, .cls ⟨"BadDeed", [.ref 31], [.ref 158, .ref 31, .type "ValueError", .type "Exception", .type "BaseException", .type "object"], 157, "BadDeed", true, [], [], false, none, false⟩, #[some (.ref 140), none, some (.str "BadDeed" 351), some (.str "BadDeed" 359), some (.builtin "ValueError.__new__"), some (.bool true)]⟩
noncomputable def o123 (P : Params) : Obj := ⟨.type "super", none, .fields #[.ref 158, .ref 158, .ref 158], #[]⟩
noncomputable def o124 (P : Params) : Obj := ⟨.type "builtin_function_or_method", none, .fields #[.builtin "object.__init_subclass__", .ref 158], #[]⟩
noncomputable def o125 (P : Params) : Obj := ⟨.type "dict", none, .dict #[en P "__module__" 385 (.str "heldfloods.errors" 194), en P "__qualname__" 387 (.str "Unlike" 386), en P "__firstlineno__" 389 (.int (38) 388), en P "__init__" 397 (.ref 176), en P "__static_attributes__" 398 (.ref 177), en P "__classcell__" 399 (.ref 164)] 6, #[]⟩
noncomputable def o126 (P : Params) : Obj := ⟨.type "cell", none, .cell (some (.ref 179)), #[]⟩
noncomputable def o127 (P : Params) : Obj := ⟨.none, none, .fields #[.int (40) 0, .int (4) 0, .ref 175], #[]⟩
noncomputable def o128 (P : Params) : Obj := ⟨.type "code", none, .fields #[.str "Unlike" 380, .str "Unlike" 381, .str "/claim/cut.py" 382, .int (38) 0, .int (0) 0, .int (0) 0, .int (0) 0, .int (0) 0, .ref 165, .bool false, .int (181) 0, .ref 166, .none, .none, .none, .none, .int (383) 0, .int (38) 0, .str "/claim/cut.py" 384], #[]⟩
noncomputable def o129 (P : Params) : Obj := ⟨.type "frame", none, .plain, #[some (.ref 167), some (.ref 3), some (.ref 163), none, some (.str "heldfloods.errors" 194), none, some (.ref 0)]⟩
noncomputable def o130 (P : Params) : Obj := ⟨.type "tuple", none, .seq #[.ref 164] 0, #[]⟩
noncomputable def o131 (P : Params) : Obj := ⟨.type "tuple", none, .seq #[.str "__class__" 393] 0, #[]⟩
noncomputable def o132 (P : Params) : Obj := ⟨.type "tuple", none, .seq #[.str "self" 394] 0, #[]⟩
noncomputable def o133 (P : Params) : Obj := ⟨.none, none, .func ⟨"__init__", "Unlike.__init__", (fA (iC 9 0)), (.stmts (fB (iC 9 0))), (fS (iC 9 0)), 0, [], .none, .none, .none, .none, none, .none, .none, 0⟩, #[]⟩
noncomputable def o134 (P : Params) : Obj := ⟨.type "code", none, .fields #[.str "__init__" 390, .str "Unlike.__init__" 391, .str "/claim/cut.py" 392, .int (40) 0, .int (1) 0, .int (0) 0, .int (0) 0, .int (3) 0, .ref 170, .bool true, .int (181) 0, .ref 171, .none, .ref 172, .ref 173, .ref 174, .int (395) 0, .int (40) 0, .str "/claim/cut.py" 396], #[]⟩
noncomputable def o135 (P : Params) : Obj := ⟨.type "function", none, .func ⟨"__init__", "Unlike.__init__", (fA (iC 9 0)), (.stmts (fB (iC 9 0))), (fS (iC 9 0)), 3, [("__class__", 164)], .none, .none, .none, .str "heldfloods.errors" 194, none, .ref 175, .ref 169, 0⟩, #[]⟩
noncomputable def o136 (P : Params) : Obj := ⟨.type "dict", none, .dict #[en P "__module__" 385 (.str "heldfloods.errors" 194), en P "__firstlineno__" 389 (.int (38) 388), en P "__init__" 397 (.ref 176), en P "__static_attributes__" 398 (.ref 177), en P "__doc__" 400 (.none)] 3, #[]⟩
noncomputable def o137 (P : Params) : Obj := ⟨.type "type", none, .cls ⟨"Unlike", [.ref 31], [.ref 179, .ref 31, .type "ValueError", .type "Exception", .type "BaseException", .type "object"], 178, "Unlike", true, [], [], false, none, false⟩, #[some (.ref 161), none, some (.str "Unlike" 378), some (.str "Unlike" 386), some (.builtin "ValueError.__new__"), some (.bool true)]⟩
noncomputable def o138 (P : Params) : Obj := ⟨.type "super", none, .fields #[.ref 179, .ref 179, .ref 179], #[]⟩
noncomputable def o139 (P : Params) : Obj := ⟨.type "builtin_function_or_method", none, .fields #[.builtin "object.__init_subclass__", .ref 179], #[]⟩
noncomputable def o140 (P : Params) : Obj := ⟨.type "dict", none, .dict #[en P "__module__" 410 (.str "heldfloods.errors" 194), en P "__qualname__" 412 (.str "BadText" 411), en P "__firstlineno__" 414 (.int (42) 413), en P "__init__" 424 (.ref 197), en P "__static_attributes__" 427 (.ref 198), en P "__classcell__" 428 (.ref 185)] 6, #[]⟩
noncomputable def o141 (P : Params) : Obj := ⟨.type "cell", none, .cell (some (.ref 200)), #[]⟩
noncomputable def o142 (P : Params) : Obj := ⟨.none, none, .fields #[.int (44) 0, .int (4) 0, .ref 196], #[]⟩
noncomputable def o143 (P : Params) : Obj := ⟨.type "code", none, .fields #[.str "BadText" 405, .str "BadText" 406, .str "/claim/cut.py" 407, .int (42) 0, .int (0) 0, .int (0) 0, .int (0) 0, .int (0) 0, .ref 186, .bool false, .int (181) 0, .ref 187, .none, .none, .none, .none, .int (408) 0, .int (42) 0, .str "/claim/cut.py" 409], #[]⟩
noncomputable def o144 (P : Params) : Obj := ⟨.type "frame", none, .plain, #[some (.ref 188), some (.ref 3), some (.ref 184), none, some (.str "heldfloods.errors" 194), none, some (.ref 0)]⟩
noncomputable def o145 (P : Params) : Obj := ⟨.type "tuple", none, .seq #[.ref 185] 0, #[]⟩
noncomputable def o146 (P : Params) : Obj := ⟨.type "tuple", none, .seq #[.str "__class__" 418] 0, #[]⟩
noncomputable def o147 (P : Params) : Obj := ⟨.type "tuple", none, .seq #[.str "self" 419, .str "line" 420, .str "word" 421] 0, #[]⟩
noncomputable def o148 (P : Params) : Obj := ⟨.none, none, .func ⟨"__init__", "BadText.__init__", (fA (iC 10 0)), (.stmts (fB (iC 10 0))), (fS (iC 10 0)), 0, [], .none, .none, .none, .none, none, .none, .none, 0⟩, #[]⟩
noncomputable def o149 (P : Params) : Obj := ⟨.type "code", none, .fields #[.str "__init__" 415, .str "BadText.__init__" 416, .str "/claim/cut.py" 417, .int (44) 0, .int (3) 0, .int (0) 0, .int (0) 0, .int (3) 0, .ref 191, .bool true, .int (181) 0, .ref 192, .none, .ref 193, .ref 194, .ref 195, .int (422) 0, .int (44) 0, .str "/claim/cut.py" 423], #[]⟩
noncomputable def o150 (P : Params) : Obj := ⟨.type "function", none, .func ⟨"__init__", "BadText.__init__", (fA (iC 10 0)), (.stmts (fB (iC 10 0))), (fS (iC 10 0)), 3, [("__class__", 185)], .none, .none, .none, .str "heldfloods.errors" 194, none, .ref 196, .ref 190, 0⟩, #[]⟩
noncomputable def o151 (P : Params) : Obj := ⟨.type "tuple", none, .seq #[.str "line" 425, .str "word" 426] 0, #[]⟩
noncomputable def o152 (P : Params) : Obj := ⟨.type "dict", none, .dict #[en P "__module__" 410 (.str "heldfloods.errors" 194), en P "__firstlineno__" 414 (.int (42) 413), en P "__init__" 424 (.ref 197), en P "__static_attributes__" 427 (.ref 198), en P "__doc__" 429 (.none)] 3, #[]⟩
noncomputable def o153 (P : Params) : Obj := ⟨.type "type", none, .cls ⟨"BadText", [.ref 31], [.ref 200, .ref 31, .type "ValueError", .type "Exception", .type "BaseException", .type "object"], 199, "BadText", true, [], [], false, none, false⟩, #[some (.ref 182), none, some (.str "BadText" 403), some (.str "BadText" 411), some (.builtin "ValueError.__new__"), some (.bool true)]⟩
noncomputable def o154 (P : Params) : Obj := ⟨.type "super", none, .fields #[.ref 200, .ref 200, .ref 200], #[]⟩
noncomputable def o155 (P : Params) : Obj := ⟨.type "builtin_function_or_method", none, .fields #[.builtin "object.__init_subclass__", .ref 200], #[]⟩
noncomputable def o156 (P : Params) : Obj := ⟨.type "tuple", none, .seq #[.str "value" 443] 0, #[]⟩
noncomputable def o157 (P : Params) : Obj := ⟨.none, none, .func ⟨"is_whole", "is_whole", (fA (tS 14)), (.stmts (fB (tS 14))), (fS (tS 14)), 0, [], .none, .none, .none, .none, none, .none, .none, 0⟩, #[]⟩
noncomputable def o158 (P : Params) : Obj := ⟨.type "code", none, .fields #[.str "is_whole" 440, .str "is_whole" 441, .str "/claim/cut.py" 442, .int (51) 0, .int (1) 0, .int (0) 0, .int (0) 0, .int (3) 0, .ref 203, .bool true, .int (181) 0, .ref 204, .none, .ref 205, .ref 206, .ref 207, .int (444) 0, .int (51) 0, .str "/claim/cut.py" 445], #[]⟩
noncomputable def o159 (P : Params) : Obj := ⟨.type "function", none, .func ⟨"is_whole", "is_whole", (fA (tS 14)), (.stmts (fB (tS 14))), (fS (tS 14)), 3, [], .none, .none, .none, .str "heldfloods.places" 432, none, .ref 208, .none, 0⟩, #[]⟩
noncomputable def o160 (P : Params) : Obj := ⟨.none, none, .func ⟨"number_in", "number_in", (fA (tS 15)), (.stmts (fB (tS 15))), (fS (tS 15)), 0, [], .none, .none, .none, .none, none, .none, .none, 0⟩, #[]⟩
noncomputable def o161 (P : Params) : Obj := ⟨.type "code", none, .fields #[.str "number_in" 447, .str "number_in" 448, .str "/claim/cut.py" 449, .int (53) 0, .int (1) 0, .int (0) 0, .int (0) 0, .int (3) 0, .ref 210, .bool true, .int (181) 0, .ref 211, .none, .none, .none, .ref 212, .int (450) 0, .int (53) 0, .str "/claim/cut.py" 451], #[]⟩
noncomputable def o162 (P : Params) : Obj := ⟨.type "function", none, .func ⟨"number_in", "number_in", (fA (tS 15)), (.stmts (fB (tS 15))), (fS (tS 15)), 3, [], .none, .none, .none, .str "heldfloods.places" 432, none, .ref 213, .none, 0⟩, #[]⟩
noncomputable def o163 (P : Params) : Obj := ⟨.type "tuple", none, .seq #[.str "slope" 456, .str "offset" 457, .str "odd" 458, .str "size" 459] 0, #[]⟩
noncomputable def o164 (P : Params) : Obj := ⟨.none, none, .func ⟨"value_at", "value_at", (fA (tS 16)), (.stmts (fB (tS 16))), (fS (tS 16)), 0, [], .none, .none, .none, .none, none, .none, .none, 0⟩, #[]⟩
noncomputable def o165 (P : Params) : Obj := ⟨.type "code", none, .fields #[.str "value_at" 453, .str "value_at" 454, .str "/claim/cut.py" 455, .int (59) 0, .int (4) 0, .int (0) 0, .int (0) 0, .int (3) 0, .ref 215, .bool true, .int (181) 0, .ref 216, .none, .ref 217, .ref 218, .ref 219, .int (460) 0, .int (59) 0, .str "/claim/cut.py" 461], #[]⟩
noncomputable def o166 (P : Params) : Obj := ⟨.type "function", none, .func ⟨"value_at", "value_at", (fA (tS 16)), (.stmts (fB (tS 16))), (fS (tS 16)), 3, [], .none, .none, .none, .str "heldfloods.places" 432, none, .ref 220, .none, 0⟩, #[]⟩
noncomputable def o167 (P : Params) : Obj := ⟨.type "tuple", none, .seq #[.str "slope" 466, .str "offset" 467, .str "odd" 468] 0, #[]⟩
noncomputable def o168 (P : Params) : Obj := ⟨.none, none, .func ⟨"is_ahead", "is_ahead", (fA (tS 17)), (.stmts (fB (tS 17))), (fS (tS 17)), 0, [], .none, .none, .none, .none, none, .none, .none, 0⟩, #[]⟩
noncomputable def o169 (P : Params) : Obj := ⟨.type "code", none, .fields #[.str "is_ahead" 463, .str "is_ahead" 464, .str "/claim/cut.py" 465, .int (61) 0, .int (3) 0, .int (0) 0, .int (0) 0, .int (3) 0, .ref 222, .bool true, .int (181) 0, .ref 223, .none, .ref 224, .ref 225, .ref 226, .int (469) 0, .int (61) 0, .str "/claim/cut.py" 470], #[]⟩
noncomputable def o170 (P : Params) : Obj := ⟨.type "function", none, .func ⟨"is_ahead", "is_ahead", (fA (tS 17)), (.stmts (fB (tS 17))), (fS (tS 17)), 3, [], .none, .none, .none, .str "heldfloods.places" 432, none, .ref 227, .none, 0⟩, #[]⟩
noncomputable def o171 (P : Params) : Obj := ⟨.type "dict", none, .dict #[en P "__module__" 479 (.str "heldfloods.places" 432), en P "__qualname__" 481 (.str "Place" 480), en P "__firstlineno__" 483 (.int (63) 482), en P "__init__" 496 (.ref 243), en P "read" 514 (.ref 250), en P "__call__" 522 (.ref 258), en P "moved" 530 (.ref 265), en P "__add__" 538 (.ref 272), en P "__radd__" 546 (.ref 279), en P "__sub__" 554 (.ref 286), en P "__invert__" 561 (.ref 293), en P "__eq__" 569 (.ref 300), en P "__le__" 577 (.ref 307), en P "__lt__" 585 (.ref 314), en P "__ge__" 593 (.ref 321), en P "__gt__" 601 (.ref 328), en P "__str__" 608 (.ref 335), en P "__static_attributes__" 612 (.ref 336)] 18, #[]⟩
noncomputable def o172 (P : Params) : Obj := ⟨.none, none, .fields #[.int (65) 0, .int (4) 0, .ref 242, .int (74) 0, .int (4) 0, .ref 247, .int (89) 0, .int (4) 0, .ref 257, .int (94) 0, .int (4) 0, .ref 264, .int (99) 0, .int (4) 0, .ref 271, .int (102) 0, .int (4) 0, .ref 278, .int (105) 0, .int (4) 0, .ref 285, .int (110) 0, .int (4) 0, .ref 292, .int (113) 0, .int (4) 0, .ref 299, .int (116) 0, .int (4) 0, .ref 306, .int (121) 0, .int (4) 0, .ref 313, .int (126) 0, .int (4) 0, .ref 320, .int (131) 0, .int (4) 0, .ref 327, .int (136) 0, .int (4) 0, .ref 334], #[]⟩
noncomputable def o173 (P : Params) : Obj := ⟨.type "code", none, .fields #[.str "Place" 474, .str "Place" 475, .str "/claim/cut.py" 476, .int (63) 0, .int (0) 0, .int (0) 0, .int (0) 0, .int (0) 0, .ref 232, .bool false, .int (181) 0, .ref 233, .none, .none, .none, .none, .int (477) 0, .int (63) 0, .str "/claim/cut.py" 478], #[]⟩
noncomputable def o174 (P : Params) : Obj := ⟨.type "frame", none, .plain, #[some (.ref 234), some (.ref 3), some (.ref 231), none, some (.str "heldfloods.places" 432), none, some (.ref 0)]⟩
noncomputable def o175 (P : Params) : Obj := ⟨.type "tuple", none, .seq #[.int (0) 484] 0, #[]⟩
noncomputable def o176 (P : Params) : Obj := ⟨.type "tuple", none, .seq #[.str "self" 488, .str "slope" 489, .str "offset" 490, .str "odd" 491, .str "part" 492, .str "value" 493] 0, #[]⟩
noncomputable def o177 (P : Params) : Obj := ⟨.none, none, .func ⟨"__init__", "Place.__init__", (fA (iC 18 0)), (.stmts (fB (iC 18 0))), (fS (iC 18 0)), 0, [], .none, .none, .none, .none, none, .none, .none, 0⟩, #[]⟩
noncomputable def o178 (P : Params) : Obj := ⟨.type "code", none, .fields #[.str "__init__" 485, .str "Place.__init__" 486, .str "/claim/cut.py" 487, .int (65) 0, .int (4) 0, .int (0) 0, .int (0) 0, .int (3) 0, .ref 237, .bool true, .int (181) 0, .ref 238, .none, .ref 239, .ref 240, .ref 241, .int (494) 0, .int (65) 0, .str "/claim/cut.py" 495], #[]⟩
noncomputable def o179 (P : Params) : Obj := ⟨.type "function", none, .func ⟨"__init__", "Place.__init__", (fA (iC 18 0)), (.stmts (fB (iC 18 0))), (fS (iC 18 0)), 3, [], .ref 236, .none, .none, .str "heldfloods.places" 432, none, .ref 242, .none, 0⟩, #[]⟩
noncomputable def o180 (P : Params) : Obj := ⟨.none, none, .func ⟨"read", "Place.read", (fA (iC 18 1)), (.stmts (fB (iC 18 1))), (fS (iC 18 1)), 0, [], .none, .none, .none, .none, none, .none, .none, 0⟩, #[]⟩
noncomputable def o181 (P : Params) : Obj := ⟨.type "code", none, .fields #[.str "read" 497, .str "Place.read" 498, .str "/claim/cut.py" 499, .int (73) 0, .int (2) 0, .int (0) 0, .int (0) 0, .int (3) 0, .ref 244, .bool true, .int (181) 0, .ref 245, .none, .none, .none, .ref 246, .int (500) 0, .int (73) 0, .str "/claim/cut.py" 501], #[]⟩
noncomputable def o182 (P : Params) : Obj := ⟨.type "function", none, .func ⟨"read", "Place.read", (fA (iC 18 1)), (.stmts (fB (iC 18 1))), (fS (iC 18 1)), 3, [], .none, .none, .none, .str "heldfloods.places" 432, some (251), .ref 247, .none, 0⟩, #[]⟩
noncomputable def o183 (P : Params) : Obj := ⟨.type "dict", none, .dict #[en P "__module__" 503 (.str "heldfloods.places" 432), en P "__name__" 506 (.str "read" 505), en P "__qualname__" 509 (.str "Place.read" 508), en P "__doc__" 511 (.none), en P "__annotations__" 513 (.ref 251)] 5, #[]⟩
noncomputable def o184 (P : Params) : Obj := ⟨.type "classmethod", some (249), .fields #[.ref 248, .bool false], #[]⟩
noncomputable def o185 (P : Params) : Obj := ⟨.type "tuple", none, .seq #[.str "self" 518, .str "size" 519] 0, #[]⟩
noncomputable def o186 (P : Params) : Obj := ⟨.none, none, .func ⟨"__call__", "Place.__call__", (fA (iC 18 2)), (.stmts (fB (iC 18 2))), (fS (iC 18 2)), 0, [], .none, .none, .none, .none, none, .none, .none, 0⟩, #[]⟩
noncomputable def o187 (P : Params) : Obj := ⟨.type "code", none, .fields #[.str "__call__" 515, .str "Place.__call__" 516, .str "/claim/cut.py" 517, .int (89) 0, .int (2) 0, .int (0) 0, .int (0) 0, .int (3) 0, .ref 252, .bool true, .int (181) 0, .ref 253, .none, .ref 254, .ref 255, .ref 256, .int (520) 0, .int (89) 0, .str "/claim/cut.py" 521], #[]⟩
noncomputable def o188 (P : Params) : Obj := ⟨.type "function", none, .func ⟨"__call__", "Place.__call__", (fA (iC 18 2)), (.stmts (fB (iC 18 2))), (fS (iC 18 2)), 3, [], .none, .none, .none, .str "heldfloods.places" 432, none, .ref 257, .none, 0⟩, #[]⟩
noncomputable def o189 (P : Params) : Obj := ⟨.type "tuple", none, .seq #[.str "self" 526, .str "other" 527] 0, #[]⟩
noncomputable def o190 (P : Params) : Obj := ⟨.none, none, .func ⟨"moved", "Place.moved", (fA (iC 18 3)), (.stmts (fB (iC 18 3))), (fS (iC 18 3)), 0, [], .none, .none, .none, .none, none, .none, .none, 0⟩, #[]⟩
noncomputable def o191 (P : Params) : Obj := ⟨.type "code", none, .fields #[.str "moved" 523, .str "Place.moved" 524, .str "/claim/cut.py" 525, .int (94) 0, .int (2) 0, .int (0) 0, .int (0) 0, .int (3) 0, .ref 259, .bool true, .int (181) 0, .ref 260, .none, .ref 261, .ref 262, .ref 263, .int (528) 0, .int (94) 0, .str "/claim/cut.py" 529], #[]⟩
noncomputable def o192 (P : Params) : Obj := ⟨.type "function", none, .func ⟨"moved", "Place.moved", (fA (iC 18 3)), (.stmts (fB (iC 18 3))), (fS (iC 18 3)), 3, [], .none, .none, .none, .str "heldfloods.places" 432, none, .ref 264, .none, 0⟩, #[]⟩
noncomputable def o193 (P : Params) : Obj := ⟨.type "tuple", none, .seq #[.str "self" 534, .str "other" 535] 0, #[]⟩
noncomputable def o194 (P : Params) : Obj := ⟨.none, none, .func ⟨"__add__", "Place.__add__", (fA (iC 18 4)), (.stmts (fB (iC 18 4))), (fS (iC 18 4)), 0, [], .none, .none, .none, .none, none, .none, .none, 0⟩, #[]⟩
noncomputable def o195 (P : Params) : Obj := ⟨.type "code", none, .fields #[.str "__add__" 531, .str "Place.__add__" 532, .str "/claim/cut.py" 533, .int (99) 0, .int (2) 0, .int (0) 0, .int (0) 0, .int (3) 0, .ref 266, .bool true, .int (181) 0, .ref 267, .none, .ref 268, .ref 269, .ref 270, .int (536) 0, .int (99) 0, .str "/claim/cut.py" 537], #[]⟩
noncomputable def o196 (P : Params) : Obj := ⟨.type "function", none, .func ⟨"__add__", "Place.__add__", (fA (iC 18 4)), (.stmts (fB (iC 18 4))), (fS (iC 18 4)), 3, [], .none, .none, .none, .str "heldfloods.places" 432, none, .ref 271, .none, 0⟩, #[]⟩
noncomputable def o197 (P : Params) : Obj := ⟨.type "tuple", none, .seq #[.str "self" 542, .str "other" 543] 0, #[]⟩
noncomputable def o198 (P : Params) : Obj := ⟨.none, none, .func ⟨"__radd__", "Place.__radd__", (fA (iC 18 5)), (.stmts (fB (iC 18 5))), (fS (iC 18 4)), 0, [], .none, .none, .none, .none, none, .none, .none, 0⟩, #[]⟩
noncomputable def o199 (P : Params) : Obj := ⟨.type "code", none, .fields #[.str "__radd__" 539, .str "Place.__radd__" 540, .str "/claim/cut.py" 541, .int (102) 0, .int (2) 0, .int (0) 0, .int (0) 0, .int (3) 0, .ref 273, .bool true, .int (181) 0, .ref 274, .none, .ref 275, .ref 276, .ref 277, .int (544) 0, .int (102) 0, .str "/claim/cut.py" 545], #[]⟩
noncomputable def o200 (P : Params) : Obj := ⟨.type "function", none, .func ⟨"__radd__", "Place.__radd__", (fA (iC 18 5)), (.stmts (fB (iC 18 5))), (fS (iC 18 4)), 3, [], .none, .none, .none, .str "heldfloods.places" 432, none, .ref 278, .none, 0⟩, #[]⟩
noncomputable def o201 (P : Params) : Obj := ⟨.type "tuple", none, .seq #[.str "self" 550, .str "other" 551] 0, #[]⟩
noncomputable def o202 (P : Params) : Obj := ⟨.none, none, .func ⟨"__sub__", "Place.__sub__", (fA (iC 18 6)), (.stmts (fB (iC 18 6))), (fS (iC 18 3)), 0, [], .none, .none, .none, .none, none, .none, .none, 0⟩, #[]⟩
noncomputable def o203 (P : Params) : Obj := ⟨.type "code", none, .fields #[.str "__sub__" 547, .str "Place.__sub__" 548, .str "/claim/cut.py" 549, .int (105) 0, .int (2) 0, .int (0) 0, .int (0) 0, .int (3) 0, .ref 280, .bool true, .int (181) 0, .ref 281, .none, .ref 282, .ref 283, .ref 284, .int (552) 0, .int (105) 0, .str "/claim/cut.py" 553], #[]⟩
noncomputable def o204 (P : Params) : Obj := ⟨.type "function", none, .func ⟨"__sub__", "Place.__sub__", (fA (iC 18 6)), (.stmts (fB (iC 18 6))), (fS (iC 18 3)), 3, [], .none, .none, .none, .str "heldfloods.places" 432, none, .ref 285, .none, 0⟩, #[]⟩
noncomputable def o205 (P : Params) : Obj := ⟨.type "tuple", none, .seq #[.str "self" 558] 0, #[]⟩
noncomputable def o206 (P : Params) : Obj := ⟨.none, none, .func ⟨"__invert__", "Place.__invert__", (fA (iC 18 7)), (.stmts (fB (iC 18 7))), (fS (iC 18 7)), 0, [], .none, .none, .none, .none, none, .none, .none, 0⟩, #[]⟩
noncomputable def o207 (P : Params) : Obj := ⟨.type "code", none, .fields #[.str "__invert__" 555, .str "Place.__invert__" 556, .str "/claim/cut.py" 557, .int (110) 0, .int (1) 0, .int (0) 0, .int (0) 0, .int (3) 0, .ref 287, .bool true, .int (181) 0, .ref 288, .none, .ref 289, .ref 290, .ref 291, .int (559) 0, .int (110) 0, .str "/claim/cut.py" 560], #[]⟩
noncomputable def o208 (P : Params) : Obj := ⟨.type "function", none, .func ⟨"__invert__", "Place.__invert__", (fA (iC 18 7)), (.stmts (fB (iC 18 7))), (fS (iC 18 7)), 3, [], .none, .none, .none, .str "heldfloods.places" 432, none, .ref 292, .none, 0⟩, #[]⟩
noncomputable def o209 (P : Params) : Obj := ⟨.type "tuple", none, .seq #[.str "self" 565, .str "other" 566] 0, #[]⟩
noncomputable def o210 (P : Params) : Obj := ⟨.none, none, .func ⟨"__eq__", "Place.__eq__", (fA (iC 18 8)), (.stmts (fB (iC 18 8))), (fS (iC 18 3)), 0, [], .none, .none, .none, .none, none, .none, .none, 0⟩, #[]⟩
noncomputable def o211 (P : Params) : Obj := ⟨.type "code", none, .fields #[.str "__eq__" 562, .str "Place.__eq__" 563, .str "/claim/cut.py" 564, .int (113) 0, .int (2) 0, .int (0) 0, .int (0) 0, .int (3) 0, .ref 294, .bool true, .int (181) 0, .ref 295, .none, .ref 296, .ref 297, .ref 298, .int (567) 0, .int (113) 0, .str "/claim/cut.py" 568], #[]⟩
noncomputable def o212 (P : Params) : Obj := ⟨.type "function", none, .func ⟨"__eq__", "Place.__eq__", (fA (iC 18 8)), (.stmts (fB (iC 18 8))), (fS (iC 18 3)), 3, [], .none, .none, .none, .str "heldfloods.places" 432, none, .ref 299, .none, 0⟩, #[]⟩
noncomputable def o213 (P : Params) : Obj := ⟨.type "tuple", none, .seq #[.str "self" 573, .str "other" 574] 0, #[]⟩
noncomputable def o214 (P : Params) : Obj := ⟨.none, none, .func ⟨"__le__", "Place.__le__", (fA (iC 18 9)), (.stmts (fB (iC 18 9))), (fS (iC 18 9)), 0, [], .none, .none, .none, .none, none, .none, .none, 0⟩, #[]⟩
noncomputable def o215 (P : Params) : Obj := ⟨.type "code", none, .fields #[.str "__le__" 570, .str "Place.__le__" 571, .str "/claim/cut.py" 572, .int (116) 0, .int (2) 0, .int (0) 0, .int (0) 0, .int (3) 0, .ref 301, .bool true, .int (181) 0, .ref 302, .none, .ref 303, .ref 304, .ref 305, .int (575) 0, .int (116) 0, .str "/claim/cut.py" 576], #[]⟩
noncomputable def o216 (P : Params) : Obj := ⟨.type "function", none, .func ⟨"__le__", "Place.__le__", (fA (iC 18 9)), (.stmts (fB (iC 18 9))), (fS (iC 18 9)), 3, [], .none, .none, .none, .str "heldfloods.places" 432, none, .ref 306, .none, 0⟩, #[]⟩
noncomputable def o217 (P : Params) : Obj := ⟨.type "tuple", none, .seq #[.str "self" 581, .str "other" 582] 0, #[]⟩
noncomputable def o218 (P : Params) : Obj := ⟨.none, none, .func ⟨"__lt__", "Place.__lt__", (fA (iC 18 10)), (.stmts (fB (iC 18 10))), (fS (iC 18 9)), 0, [], .none, .none, .none, .none, none, .none, .none, 0⟩, #[]⟩
noncomputable def o219 (P : Params) : Obj := ⟨.type "code", none, .fields #[.str "__lt__" 578, .str "Place.__lt__" 579, .str "/claim/cut.py" 580, .int (121) 0, .int (2) 0, .int (0) 0, .int (0) 0, .int (3) 0, .ref 308, .bool true, .int (181) 0, .ref 309, .none, .ref 310, .ref 311, .ref 312, .int (583) 0, .int (121) 0, .str "/claim/cut.py" 584], #[]⟩
noncomputable def o220 (P : Params) : Obj := ⟨.type "function", none, .func ⟨"__lt__", "Place.__lt__", (fA (iC 18 10)), (.stmts (fB (iC 18 10))), (fS (iC 18 9)), 3, [], .none, .none, .none, .str "heldfloods.places" 432, none, .ref 313, .none, 0⟩, #[]⟩
noncomputable def o221 (P : Params) : Obj := ⟨.type "tuple", none, .seq #[.str "self" 589, .str "other" 590] 0, #[]⟩
noncomputable def o222 (P : Params) : Obj := ⟨.none, none, .func ⟨"__ge__", "Place.__ge__", (fA (iC 18 11)), (.stmts (fB (iC 18 11))), (fS (iC 18 9)), 0, [], .none, .none, .none, .none, none, .none, .none, 0⟩, #[]⟩
noncomputable def o223 (P : Params) : Obj := ⟨.type "code", none, .fields #[.str "__ge__" 586, .str "Place.__ge__" 587, .str "/claim/cut.py" 588, .int (126) 0, .int (2) 0, .int (0) 0, .int (0) 0, .int (3) 0, .ref 315, .bool true, .int (181) 0, .ref 316, .none, .ref 317, .ref 318, .ref 319, .int (591) 0, .int (126) 0, .str "/claim/cut.py" 592], #[]⟩
noncomputable def o224 (P : Params) : Obj := ⟨.type "function", none, .func ⟨"__ge__", "Place.__ge__", (fA (iC 18 11)), (.stmts (fB (iC 18 11))), (fS (iC 18 9)), 3, [], .none, .none, .none, .str "heldfloods.places" 432, none, .ref 320, .none, 0⟩, #[]⟩
noncomputable def o225 (P : Params) : Obj := ⟨.type "tuple", none, .seq #[.str "self" 597, .str "other" 598] 0, #[]⟩
noncomputable def o226 (P : Params) : Obj := ⟨.none, none, .func ⟨"__gt__", "Place.__gt__", (fA (iC 18 12)), (.stmts (fB (iC 18 12))), (fS (iC 18 9)), 0, [], .none, .none, .none, .none, none, .none, .none, 0⟩, #[]⟩
noncomputable def o227 (P : Params) : Obj := ⟨.type "code", none, .fields #[.str "__gt__" 594, .str "Place.__gt__" 595, .str "/claim/cut.py" 596, .int (131) 0, .int (2) 0, .int (0) 0, .int (0) 0, .int (3) 0, .ref 322, .bool true, .int (181) 0, .ref 323, .none, .ref 324, .ref 325, .ref 326, .int (599) 0, .int (131) 0, .str "/claim/cut.py" 600], #[]⟩
noncomputable def o228 (P : Params) : Obj := ⟨.type "function", none, .func ⟨"__gt__", "Place.__gt__", (fA (iC 18 12)), (.stmts (fB (iC 18 12))), (fS (iC 18 9)), 3, [], .none, .none, .none, .str "heldfloods.places" 432, none, .ref 327, .none, 0⟩, #[]⟩
noncomputable def o229 (P : Params) : Obj := ⟨.type "tuple", none, .seq #[.str "self" 605] 0, #[]⟩
noncomputable def o230 (P : Params) : Obj := ⟨.none, none, .func ⟨"__str__", "Place.__str__", (fA (iC 18 13)), (.stmts (fB (iC 18 13))), (fS (iC 18 13)), 0, [], .none, .none, .none, .none, none, .none, .none, 0⟩, #[]⟩
noncomputable def o231 (P : Params) : Obj := ⟨.type "code", none, .fields #[.str "__str__" 602, .str "Place.__str__" 603, .str "/claim/cut.py" 604, .int (136) 0, .int (1) 0, .int (0) 0, .int (0) 0, .int (3) 0, .ref 329, .bool true, .int (181) 0, .ref 330, .none, .ref 331, .ref 332, .ref 333, .int (606) 0, .int (136) 0, .str "/claim/cut.py" 607], #[]⟩
noncomputable def o232 (P : Params) : Obj := ⟨.type "function", none, .func ⟨"__str__", "Place.__str__", (fA (iC 18 13)), (.stmts (fB (iC 18 13))), (fS (iC 18 13)), 3, [], .none, .none, .none, .str "heldfloods.places" 432, none, .ref 334, .none, 0⟩, #[]⟩
noncomputable def o233 (P : Params) : Obj := ⟨.type "tuple", none, .seq #[.str "odd" 609, .str "offset" 610, .str "slope" 611] 0, #[]⟩
noncomputable def o234 (P : Params) : Obj := ⟨.type "dict", none, .dict #[en P "__module__" 479 (.str "heldfloods.places" 432), en P "__firstlineno__" 483 (.int (63) 482), en P "__init__" 496 (.ref 243), en P "read" 514 (.ref 250), en P "__call__" 522 (.ref 258), en P "moved" 530 (.ref 265), en P "__add__" 538 (.ref 272), en P "__radd__" 546 (.ref 279), en P "__sub__" 554 (.ref 286), en P "__invert__" 561 (.ref 293), en P "__eq__" 569 (.ref 300), en P "__le__" 577 (.ref 307), en P "__lt__" 585 (.ref 314), en P "__ge__" 593 (.ref 321), en P "__gt__" 601 (.ref 328), en P "__str__" 608 (.ref 335), en P "__static_attributes__" 612 (.ref 336), en P "__dict__" 614 (.ref 339), en P "__weakref__" 616 (.ref 340), en P "__doc__" 617 (.none), en P "__hash__" 618 (.none)] 5, #[]⟩
noncomputable def o235 (P : Params) : Obj := ⟨.type "type", none, .cls ⟨"Place", [.type "object"], [.ref 338, .type "object"], 337, "Place", true, [], [], false, none, false⟩, #[none, none, some (.str "Place" 472), some (.str "Place" 480), some (.builtin "object.__new__"), some (.bool true)]⟩
noncomputable def o236 (P : Params) : Obj := ⟨.type "getset_descriptor", none, .fields #[.str "__dict__" 613, .ref 338, .builtin "function.__dict__", .builtin "function.__dict__#set"], #[]⟩
noncomputable def o237 (P : Params) : Obj := ⟨.type "getset_descriptor", none, .fields #[.str "__weakref__" 615, .ref 338, .builtin "ExceptionGroup.__weakref__", .none], #[]⟩
noncomputable def o238 (P : Params) : Obj := ⟨.type "super", none, .fields #[.ref 338, .ref 338, .ref 338], #[]⟩
noncomputable def o239 (P : Params) : Obj := ⟨.type "builtin_function_or_method", none, .fields #[.builtin "object.__init_subclass__", .ref 338], #[]⟩
noncomputable def o240 (P : Params) : Obj := ⟨.type "tuple", none, .seq #[.str "value" 624] 0, #[]⟩
noncomputable def o241 (P : Params) : Obj := ⟨.none, none, .func ⟨"need_offset", "need_offset", (fA (tS 19)), (.stmts (fB (tS 19))), (fS (tS 19)), 0, [], .none, .none, .none, .none, none, .none, .none, 0⟩, #[]⟩
noncomputable def o242 (P : Params) : Obj := ⟨.type "code", none, .fields #[.str "need_offset" 621, .str "need_offset" 622, .str "/claim/cut.py" 623, .int (144) 0, .int (1) 0, .int (0) 0, .int (0) 0, .int (3) 0, .ref 343, .bool true, .int (181) 0, .ref 344, .none, .ref 345, .ref 346, .ref 347, .int (625) 0, .int (144) 0, .str "/claim/cut.py" 626], #[]⟩
noncomputable def o243 (P : Params) : Obj := ⟨.type "function", none, .func ⟨"need_offset", "need_offset", (fA (tS 19)), (.stmts (fB (tS 19))), (fS (tS 19)), 3, [], .none, .none, .none, .str "heldfloods.places" 432, none, .ref 348, .none, 0⟩, #[]⟩
noncomputable def o244 (P : Params) : Obj := ⟨.type "tuple", none, .seq #[.int (0) 628] 0, #[]⟩
noncomputable def o245 (P : Params) : Obj := ⟨.type "tuple", none, .seq #[.str "k" 632] 0, #[]⟩
noncomputable def o246 (P : Params) : Obj := ⟨.none, none, .func ⟨"from_left", "from_left", (fA (tS 20)), (.stmts (fB (tS 20))), (fS (tS 20)), 0, [], .none, .none, .none, .none, none, .none, .none, 0⟩, #[]⟩
noncomputable def o247 (P : Params) : Obj := ⟨.type "code", none, .fields #[.str "from_left" 629, .str "from_left" 630, .str "/claim/cut.py" 631, .int (147) 0, .int (1) 0, .int (0) 0, .int (0) 0, .int (3) 0, .ref 351, .bool true, .int (181) 0, .ref 352, .none, .ref 353, .ref 354, .ref 355, .int (633) 0, .int (147) 0, .str "/claim/cut.py" 634], #[]⟩
noncomputable def o248 (P : Params) : Obj := ⟨.type "function", none, .func ⟨"from_left", "from_left", (fA (tS 20)), (.stmts (fB (tS 20))), (fS (tS 20)), 3, [], .ref 350, .none, .none, .str "heldfloods.places" 432, none, .ref 356, .none, 0⟩, #[]⟩
noncomputable def o249 (P : Params) : Obj := ⟨.type "tuple", none, .seq #[.int (0) 636] 0, #[]⟩
noncomputable def o250 (P : Params) : Obj := ⟨.type "tuple", none, .seq #[.str "k" 640] 0, #[]⟩
noncomputable def o251 (P : Params) : Obj := ⟨.none, none, .func ⟨"from_right", "from_right", (fA (tS 21)), (.stmts (fB (tS 21))), (fS (tS 20)), 0, [], .none, .none, .none, .none, none, .none, .none, 0⟩, #[]⟩
noncomputable def o252 (P : Params) : Obj := ⟨.type "code", none, .fields #[.str "from_right" 637, .str "from_right" 638, .str "/claim/cut.py" 639, .int (150) 0, .int (1) 0, .int (0) 0, .int (0) 0, .int (3) 0, .ref 359, .bool true, .int (181) 0, .ref 360, .none, .ref 361, .ref 362, .ref 363, .int (641) 0, .int (150) 0, .str "/claim/cut.py" 642], #[]⟩
noncomputable def o253 (P : Params) : Obj := ⟨.type "function", none, .func ⟨"from_right", "from_right", (fA (tS 21)), (.stmts (fB (tS 21))), (fS (tS 20)), 3, [], .ref 358, .none, .none, .str "heldfloods.places" 432, none, .ref 364, .none, 0⟩, #[]⟩
noncomputable def o254 (P : Params) : Obj := ⟨.type "tuple", none, .seq #[.int (0) 644] 0, #[]⟩
noncomputable def o255 (P : Params) : Obj := ⟨.type "tuple", none, .seq #[.str "k" 648] 0, #[]⟩
noncomputable def o256 (P : Params) : Obj := ⟨.none, none, .func ⟨"from_middle", "from_middle", (fA (tS 22)), (.stmts (fB (tS 22))), (fS (tS 20)), 0, [], .none, .none, .none, .none, none, .none, .none, 0⟩, #[]⟩
noncomputable def o257 (P : Params) : Obj := ⟨.type "code", none, .fields #[.str "from_middle" 645, .str "from_middle" 646, .str "/claim/cut.py" 647, .int (153) 0, .int (1) 0, .int (0) 0, .int (0) 0, .int (3) 0, .ref 367, .bool true, .int (181) 0, .ref 368, .none, .ref 369, .ref 370, .ref 371, .int (649) 0, .int (153) 0, .str "/claim/cut.py" 650], #[]⟩
noncomputable def o258 (P : Params) : Obj := ⟨.type "function", none, .func ⟨"from_middle", "from_middle", (fA (tS 22)), (.stmts (fB (tS 22))), (fS (tS 20)), 3, [], .ref 366, .none, .none, .str "heldfloods.places" 432, none, .ref 372, .none, 0⟩, #[]⟩
noncomputable def o259 (P : Params) : Obj := ⟨.none, none, .func ⟨"place_of", "place_of", (fA (tS 23)), (.stmts (fB (tS 23))), (fS (tS 23)), 0, [], .none, .none, .none, .none, none, .none, .none, 0⟩, #[]⟩
noncomputable def o260 (P : Params) : Obj := ⟨.type "code", none, .fields #[.str "place_of" 652, .str "place_of" 653, .str "/claim/cut.py" 654, .int (156) 0, .int (2) 0, .int (0) 0, .int (0) 0, .int (3) 0, .ref 374, .bool true, .int (181) 0, .ref 375, .none, .none, .none, .ref 376, .int (655) 0, .int (156) 0, .str "/claim/cut.py" 656], #[]⟩
noncomputable def o261 (P : Params) : Obj := ⟨.type "function", none, .func ⟨"place_of", "place_of", (fA (tS 23)), (.stmts (fB (tS 23))), (fS (tS 23)), 3, [], .none, .none, .none, .str "heldfloods.places" 432, none, .ref 377, .none, 0⟩, #[]⟩
noncomputable def o262 (P : Params) : Obj := ⟨.none, none, .func ⟨"as_place", "as_place", (fA (tS 24)), (.stmts (fB (tS 24))), (fS (tS 24)), 0, [], .none, .none, .none, .none, none, .none, .none, 0⟩, #[]⟩
noncomputable def o263 (P : Params) : Obj := ⟨.type "code", none, .fields #[.str "as_place" 658, .str "as_place" 659, .str "/claim/cut.py" 660, .int (169) 0, .int (1) 0, .int (0) 0, .int (0) 0, .int (3) 0, .ref 379, .bool true, .int (181) 0, .ref 380, .none, .none, .none, .ref 381, .int (661) 0, .int (169) 0, .str "/claim/cut.py" 662], #[]⟩
noncomputable def o264 (P : Params) : Obj := ⟨.type "function", none, .func ⟨"as_place", "as_place", (fA (tS 24)), (.stmts (fB (tS 24))), (fS (tS 24)), 3, [], .none, .none, .none, .str "heldfloods.places" 432, none, .ref 382, .none, 0⟩, #[]⟩
noncomputable def o265 (P : Params) : Obj := ⟨.type "tuple", none, .seq #[.str "value" 669, .str "part" 670, .str "found" 671] 0, #[]⟩
noncomputable def o266 (P : Params) : Obj := ⟨.none, none, .func ⟨"need_place", "need_place", (fA (tS 26)), (.stmts (fB (tS 26))), (fS (tS 26)), 0, [], .none, .none, .none, .none, none, .none, .none, 0⟩, #[]⟩
noncomputable def o267 (P : Params) : Obj := ⟨.type "code", none, .fields #[.str "need_place" 666, .str "need_place" 667, .str "/claim/cut.py" 668, .int (176) 0, .int (2) 0, .int (0) 0, .int (0) 0, .int (3) 0, .ref 384, .bool true, .int (181) 0, .ref 385, .none, .ref 386, .ref 387, .ref 388, .int (672) 0, .int (176) 0, .str "/claim/cut.py" 673], #[]⟩
noncomputable def o268 (P : Params) : Obj := ⟨.type "function", none, .func ⟨"need_place", "need_place", (fA (tS 26)), (.stmts (fB (tS 26))), (fS (tS 26)), 3, [], .none, .none, .none, .str "heldfloods.boxes" 664, none, .ref 389, .none, 0⟩, #[]⟩
noncomputable def o269 (P : Params) : Obj := ⟨.type "tuple", none, .seq #[.str "value" 678, .str "part" 679] 0, #[]⟩
noncomputable def o270 (P : Params) : Obj := ⟨.none, none, .func ⟨"need_length", "need_length", (fA (tS 27)), (.stmts (fB (tS 27))), (fS (tS 27)), 0, [], .none, .none, .none, .none, none, .none, .none, 0⟩, #[]⟩
noncomputable def o271 (P : Params) : Obj := ⟨.type "code", none, .fields #[.str "need_length" 675, .str "need_length" 676, .str "/claim/cut.py" 677, .int (181) 0, .int (2) 0, .int (0) 0, .int (0) 0, .int (3) 0, .ref 391, .bool true, .int (181) 0, .ref 392, .none, .ref 393, .ref 394, .ref 395, .int (680) 0, .int (181) 0, .str "/claim/cut.py" 681], #[]⟩
noncomputable def o272 (P : Params) : Obj := ⟨.type "function", none, .func ⟨"need_length", "need_length", (fA (tS 27)), (.stmts (fB (tS 27))), (fS (tS 27)), 3, [], .none, .none, .none, .str "heldfloods.boxes" 664, none, .ref 396, .none, 0⟩, #[]⟩
noncomputable def o273 (P : Params) : Obj := ⟨.type "dict", none, .dict #[en P "__module__" 690 (.str "heldfloods.boxes" 664), en P "__qualname__" 692 (.str "Box" 691), en P "__firstlineno__" 694 (.int (184) 693), en P "__init__" 705 (.ref 411), en P "whole" 723 (.ref 420), en P "inside" 743 (.ref 430), en P "__call__" 752 (.ref 438), en P "__invert__" 759 (.ref 445), en P "__eq__" 767 (.ref 452), en P "__str__" 774 (.ref 459), en P "__static_attributes__" 779 (.ref 460)] 11, #[]⟩
noncomputable def o274 (P : Params) : Obj := ⟨.none, none, .fields #[.int (186) 0, .int (4) 0, .ref 410, .int (193) 0, .int (4) 0, .ref 417, .int (197) 0, .int (4) 0, .ref 427, .int (200) 0, .int (4) 0, .ref 437, .int (205) 0, .int (4) 0, .ref 444, .int (208) 0, .int (4) 0, .ref 451, .int (213) 0, .int (4) 0, .ref 458], #[]⟩
noncomputable def o275 (P : Params) : Obj := ⟨.type "code", none, .fields #[.str "Box" 685, .str "Box" 686, .str "/claim/cut.py" 687, .int (184) 0, .int (0) 0, .int (0) 0, .int (0) 0, .int (0) 0, .ref 401, .bool false, .int (181) 0, .ref 402, .none, .none, .none, .none, .int (688) 0, .int (184) 0, .str "/claim/cut.py" 689], #[]⟩
noncomputable def o276 (P : Params) : Obj := ⟨.type "frame", none, .plain, #[some (.ref 403), some (.ref 3), some (.ref 400), none, some (.str "heldfloods.boxes" 664), none, some (.ref 0)]⟩
noncomputable def o277 (P : Params) : Obj := ⟨.type "tuple", none, .seq #[.str "self" 698, .str "x0" 699, .str "x1" 700, .str "y0" 701, .str "y1" 702] 0, #[]⟩
noncomputable def o278 (P : Params) : Obj := ⟨.none, none, .func ⟨"__init__", "Box.__init__", (fA (iC 28 0)), (.stmts (fB (iC 28 0))), (fS (iC 28 0)), 0, [], .none, .none, .none, .none, none, .none, .none, 0⟩, #[]⟩
noncomputable def o279 (P : Params) : Obj := ⟨.type "code", none, .fields #[.str "__init__" 695, .str "Box.__init__" 696, .str "/claim/cut.py" 697, .int (186) 0, .int (5) 0, .int (0) 0, .int (0) 0, .int (3) 0, .ref 405, .bool true, .int (181) 0, .ref 406, .none, .ref 407, .ref 408, .ref 409, .int (703) 0, .int (186) 0, .str "/claim/cut.py" 704], #[]⟩
noncomputable def o280 (P : Params) : Obj := ⟨.type "function", none, .func ⟨"__init__", "Box.__init__", (fA (iC 28 0)), (.stmts (fB (iC 28 0))), (fS (iC 28 0)), 3, [], .none, .none, .none, .str "heldfloods.boxes" 664, none, .ref 410, .none, 0⟩, #[]⟩
noncomputable def o281 (P : Params) : Obj := ⟨.none, none, .func ⟨"whole", "Box.whole", (fA (iC 28 1)), (.stmts (fB (iC 28 1))), (fS (iC 28 1)), 0, [], .none, .none, .none, .none, none, .none, .none, 0⟩, #[]⟩
noncomputable def o282 (P : Params) : Obj := ⟨.type "code", none, .fields #[.str "whole" 706, .str "Box.whole" 707, .str "/claim/cut.py" 708, .int (192) 0, .int (0) 0, .int (0) 0, .int (0) 0, .int (3) 0, .ref 412, .bool true, .int (181) 0, .ref 413, .none, .ref 414, .ref 415, .ref 416, .int (709) 0, .int (192) 0, .str "/claim/cut.py" 710], #[]⟩
noncomputable def o283 (P : Params) : Obj := ⟨.type "function", none, .func ⟨"whole", "Box.whole", (fA (iC 28 1)), (.stmts (fB (iC 28 1))), (fS (iC 28 1)), 3, [], .none, .none, .none, .str "heldfloods.boxes" 664, some (421), .ref 417, .none, 0⟩, #[]⟩
noncomputable def o284 (P : Params) : Obj := ⟨.type "dict", none, .dict #[en P "__module__" 712 (.str "heldfloods.boxes" 664), en P "__name__" 715 (.str "whole" 714), en P "__qualname__" 718 (.str "Box.whole" 717), en P "__doc__" 720 (.none), en P "__annotations__" 722 (.ref 421)] 5, #[]⟩
noncomputable def o285 (P : Params) : Obj := ⟨.type "staticmethod", some (419), .fields #[.ref 418, .bool false], #[]⟩
noncomputable def o286 (P : Params) : Obj := ⟨.type "tuple", none, .seq #[.str "cls" 727, .str "margin" 728] 0, #[]⟩
noncomputable def o287 (P : Params) : Obj := ⟨.none, none, .func ⟨"inside", "Box.inside", (fA (iC 28 2)), (.stmts (fB (iC 28 2))), (fS (iC 28 2)), 0, [], .none, .none, .none, .none, none, .none, .none, 0⟩, #[]⟩
noncomputable def o288 (P : Params) : Obj := ⟨.type "code", none, .fields #[.str "inside" 724, .str "Box.inside" 725, .str "/claim/cut.py" 726, .int (196) 0, .int (2) 0, .int (0) 0, .int (0) 0, .int (3) 0, .ref 422, .bool true, .int (181) 0, .ref 423, .none, .ref 424, .ref 425, .ref 426, .int (729) 0, .int (196) 0, .str "/claim/cut.py" 730], #[]⟩
noncomputable def o289 (P : Params) : Obj := ⟨.type "function", none, .func ⟨"inside", "Box.inside", (fA (iC 28 2)), (.stmts (fB (iC 28 2))), (fS (iC 28 2)), 3, [], .none, .none, .none, .str "heldfloods.boxes" 664, some (431), .ref 427, .none, 0⟩, #[]⟩
noncomputable def o290 (P : Params) : Obj := ⟨.type "dict", none, .dict #[en P "__module__" 732 (.str "heldfloods.boxes" 664), en P "__name__" 735 (.str "inside" 734), en P "__qualname__" 738 (.str "Box.inside" 737), en P "__doc__" 740 (.none), en P "__annotations__" 742 (.ref 431)] 5, #[]⟩
noncomputable def o291 (P : Params) : Obj := ⟨.type "classmethod", some (429), .fields #[.ref 428, .bool false], #[]⟩
noncomputable def o292 (P : Params) : Obj := ⟨.type "tuple", none, .seq #[.str "self" 747, .str "width" 748, .str "height" 749] 0, #[]⟩
noncomputable def o293 (P : Params) : Obj := ⟨.none, none, .func ⟨"__call__", "Box.__call__", (fA (iC 28 3)), (.stmts (fB (iC 28 3))), (fS (iC 28 3)), 0, [], .none, .none, .none, .none, none, .none, .none, 0⟩, #[]⟩
noncomputable def o294 (P : Params) : Obj := ⟨.type "code", none, .fields #[.str "__call__" 744, .str "Box.__call__" 745, .str "/claim/cut.py" 746, .int (200) 0, .int (3) 0, .int (0) 0, .int (0) 0, .int (3) 0, .ref 432, .bool true, .int (181) 0, .ref 433, .none, .ref 434, .ref 435, .ref 436, .int (750) 0, .int (200) 0, .str "/claim/cut.py" 751], #[]⟩
noncomputable def o295 (P : Params) : Obj := ⟨.type "function", none, .func ⟨"__call__", "Box.__call__", (fA (iC 28 3)), (.stmts (fB (iC 28 3))), (fS (iC 28 3)), 3, [], .none, .none, .none, .str "heldfloods.boxes" 664, none, .ref 437, .none, 0⟩, #[]⟩
noncomputable def o296 (P : Params) : Obj := ⟨.type "tuple", none, .seq #[.str "self" 756] 0, #[]⟩
noncomputable def o297 (P : Params) : Obj := ⟨.none, none, .func ⟨"__invert__", "Box.__invert__", (fA (iC 28 4)), (.stmts (fB (iC 28 4))), (fS (iC 28 4)), 0, [], .none, .none, .none, .none, none, .none, .none, 0⟩, #[]⟩
noncomputable def o298 (P : Params) : Obj := ⟨.type "code", none, .fields #[.str "__invert__" 753, .str "Box.__invert__" 754, .str "/claim/cut.py" 755, .int (205) 0, .int (1) 0, .int (0) 0, .int (0) 0, .int (3) 0, .ref 439, .bool true, .int (181) 0, .ref 440, .none, .ref 441, .ref 442, .ref 443, .int (757) 0, .int (205) 0, .str "/claim/cut.py" 758], #[]⟩
noncomputable def o299 (P : Params) : Obj := ⟨.type "function", none, .func ⟨"__invert__", "Box.__invert__", (fA (iC 28 4)), (.stmts (fB (iC 28 4))), (fS (iC 28 4)), 3, [], .none, .none, .none, .str "heldfloods.boxes" 664, none, .ref 444, .none, 0⟩, #[]⟩
noncomputable def o300 (P : Params) : Obj := ⟨.type "tuple", none, .seq #[.str "self" 763, .str "other" 764] 0, #[]⟩
noncomputable def o301 (P : Params) : Obj := ⟨.none, none, .func ⟨"__eq__", "Box.__eq__", (fA (iC 28 5)), (.stmts (fB (iC 28 5))), (fS (iC 28 5)), 0, [], .none, .none, .none, .none, none, .none, .none, 0⟩, #[]⟩
noncomputable def o302 (P : Params) : Obj := ⟨.type "code", none, .fields #[.str "__eq__" 760, .str "Box.__eq__" 761, .str "/claim/cut.py" 762, .int (208) 0, .int (2) 0, .int (0) 0, .int (0) 0, .int (3) 0, .ref 446, .bool true, .int (181) 0, .ref 447, .none, .ref 448, .ref 449, .ref 450, .int (765) 0, .int (208) 0, .str "/claim/cut.py" 766], #[]⟩
noncomputable def o303 (P : Params) : Obj := ⟨.type "function", none, .func ⟨"__eq__", "Box.__eq__", (fA (iC 28 5)), (.stmts (fB (iC 28 5))), (fS (iC 28 5)), 3, [], .none, .none, .none, .str "heldfloods.boxes" 664, none, .ref 451, .none, 0⟩, #[]⟩
noncomputable def o304 (P : Params) : Obj := ⟨.type "tuple", none, .seq #[.str "self" 771] 0, #[]⟩
noncomputable def o305 (P : Params) : Obj := ⟨.none, none, .func ⟨"__str__", "Box.__str__", (fA (iC 28 6)), (.stmts (fB (iC 28 6))), (fS (iC 18 13)), 0, [], .none, .none, .none, .none, none, .none, .none, 0⟩, #[]⟩
noncomputable def o306 (P : Params) : Obj := ⟨.type "code", none, .fields #[.str "__str__" 768, .str "Box.__str__" 769, .str "/claim/cut.py" 770, .int (213) 0, .int (1) 0, .int (0) 0, .int (0) 0, .int (3) 0, .ref 453, .bool true, .int (181) 0, .ref 454, .none, .ref 455, .ref 456, .ref 457, .int (772) 0, .int (213) 0, .str "/claim/cut.py" 773], #[]⟩
noncomputable def o307 (P : Params) : Obj := ⟨.type "function", none, .func ⟨"__str__", "Box.__str__", (fA (iC 28 6)), (.stmts (fB (iC 28 6))), (fS (iC 18 13)), 3, [], .none, .none, .none, .str "heldfloods.boxes" 664, none, .ref 458, .none, 0⟩, #[]⟩
noncomputable def o308 (P : Params) : Obj := ⟨.type "tuple", none, .seq #[.str "x0" 775, .str "x1" 776, .str "y0" 777, .str "y1" 778] 0, #[]⟩
noncomputable def o309 (P : Params) : Obj := ⟨.type "dict", none, .dict #[en P "__module__" 690 (.str "heldfloods.boxes" 664), en P "__firstlineno__" 694 (.int (184) 693), en P "__init__" 705 (.ref 411), en P "whole" 723 (.ref 420), en P "inside" 743 (.ref 430), en P "__call__" 752 (.ref 438), en P "__invert__" 759 (.ref 445), en P "__eq__" 767 (.ref 452), en P "__str__" 774 (.ref 459), en P "__static_attributes__" 779 (.ref 460), en P "__dict__" 781 (.ref 463), en P "__weakref__" 783 (.ref 464), en P "__doc__" 784 (.none), en P "__hash__" 785 (.none)] 5, #[]⟩
noncomputable def o310 (P : Params) : Obj := ⟨.type "type", none, .cls ⟨"Box", [.type "object"], [.ref 462, .type "object"], 461, "Box", true, [], [], false, none, false⟩, #[none, none, some (.str "Box" 683), some (.str "Box" 691), some (.builtin "object.__new__"), some (.bool true)]⟩
noncomputable def o311 (P : Params) : Obj := ⟨.type "getset_descriptor", none, .fields #[.str "__dict__" 780, .ref 462, .builtin "function.__dict__", .builtin "function.__dict__#set"], #[]⟩
noncomputable def o312 (P : Params) : Obj := ⟨.type "getset_descriptor", none, .fields #[.str "__weakref__" 782, .ref 462, .builtin "ExceptionGroup.__weakref__", .none], #[]⟩
noncomputable def o313 (P : Params) : Obj := ⟨.type "super", none, .fields #[.ref 462, .ref 462, .ref 462], #[]⟩
noncomputable def o314 (P : Params) : Obj := ⟨.type "builtin_function_or_method", none, .fields #[.builtin "object.__init_subclass__", .ref 462], #[]⟩
noncomputable def o315 (P : Params) : Obj := ⟨.type "tuple", none, .seq #[.str "box" 791, .str "width" 792, .str "height" 793, .str "x0" 794, .str "x1" 795, .str "y0" 796, .str "y1" 797, .str "y" 798, .str "x" 799] 0, #[]⟩
noncomputable def o316 (P : Params) : Obj := ⟨.none, none, .func ⟨"pixels_in", "pixels_in", (fA (tS 29)), (.stmts (fB (tS 29))), (fS (tS 29)), 0, [], .none, .none, .none, .none, none, .none, .none, 0⟩, #[]⟩
noncomputable def o317 (P : Params) : Obj := ⟨.type "code", none, .fields #[.str "pixels_in" 788, .str "pixels_in" 789, .str "/claim/cut.py" 790, .int (215) 0, .int (3) 0, .int (0) 0, .int (0) 0, .int (35) 0, .ref 467, .bool true, .int (181) 0, .ref 468, .none, .ref 469, .ref 470, .ref 471, .int (800) 0, .int (215) 0, .str "/claim/cut.py" 801], #[]⟩
noncomputable def o318 (P : Params) : Obj := ⟨.type "function", none, .func ⟨"pixels_in", "pixels_in", (fA (tS 29)), (.stmts (fB (tS 29))), (fS (tS 29)), 3, [], .none, .none, .none, .str "heldfloods.boxes" 664, none, .ref 472, .none, 0⟩, #[]⟩
noncomputable def o319 (P : Params) : Obj := ⟨.type "tuple", none, .seq #[.str "numbers" 806, .str "thick" 807, .str "x" 808, .str "y" 809, .str "x0" 810, .str "x1" 811, .str "y0" 812, .str "y1" 813] 0, #[]⟩
noncomputable def o320 (P : Params) : Obj := ⟨.none, none, .func ⟨"is_rim", "is_rim", (fA (tS 30)), (.stmts (fB (tS 30))), (fS (tS 30)), 0, [], .none, .none, .none, .none, none, .none, .none, 0⟩, #[]⟩
noncomputable def o321 (P : Params) : Obj := ⟨.type "code", none, .fields #[.str "is_rim" 803, .str "is_rim" 804, .str "/claim/cut.py" 805, .int (220) 0, .int (4) 0, .int (0) 0, .int (0) 0, .int (3) 0, .ref 474, .bool true, .int (181) 0, .ref 475, .none, .ref 476, .ref 477, .ref 478, .int (814) 0, .int (220) 0, .str "/claim/cut.py" 815], #[]⟩
noncomputable def o322 (P : Params) : Obj := ⟨.type "function", none, .func ⟨"is_rim", "is_rim", (fA (tS 30)), (.stmts (fB (tS 30))), (fS (tS 30)), 3, [], .none, .none, .none, .str "heldfloods.boxes" 664, none, .ref 479, .none, 0⟩, #[]⟩
noncomputable def o323 (P : Params) : Obj := ⟨.type "tuple", none, .seq #[.str "width" 820, .str "height" 821, .str "x" 822, .str "y" 823] 0, #[]⟩
noncomputable def o324 (P : Params) : Obj := ⟨.none, none, .func ⟨"is_pixel", "is_pixel", (fA (tS 31)), (.stmts (fB (tS 31))), (fS (tS 31)), 0, [], .none, .none, .none, .none, none, .none, .none, 0⟩, #[]⟩
noncomputable def o325 (P : Params) : Obj := ⟨.type "code", none, .fields #[.str "is_pixel" 817, .str "is_pixel" 818, .str "/claim/cut.py" 819, .int (223) 0, .int (4) 0, .int (0) 0, .int (0) 0, .int (3) 0, .ref 481, .bool true, .int (181) 0, .ref 482, .none, .ref 483, .ref 484, .ref 485, .int (824) 0, .int (223) 0, .str "/claim/cut.py" 825], #[]⟩
noncomputable def o326 (P : Params) : Obj := ⟨.type "function", none, .func ⟨"is_pixel", "is_pixel", (fA (tS 31)), (.stmts (fB (tS 31))), (fS (tS 31)), 3, [], .none, .none, .none, .str "heldfloods.boxes" 664, none, .ref 486, .none, 0⟩, #[]⟩
noncomputable def o327 (P : Params) : Obj := ⟨.type "tuple", none, .seq #[.str "rows" 834, .str "x" 835, .str "y" 836] 0, #[]⟩
noncomputable def o328 (P : Params) : Obj := ⟨.none, none, .func ⟨"is_inside", "is_inside", (fA (tS 34)), (.stmts (fB (tS 34))), (fS (tS 34)), 0, [], .none, .none, .none, .none, none, .none, .none, 0⟩, #[]⟩
noncomputable def o329 (P : Params) : Obj := ⟨.type "code", none, .fields #[.str "is_inside" 831, .str "is_inside" 832, .str "/claim/cut.py" 833, .int (227) 0, .int (3) 0, .int (0) 0, .int (0) 0, .int (3) 0, .ref 488, .bool true, .int (181) 0, .ref 489, .none, .ref 490, .ref 491, .ref 492, .int (837) 0, .int (227) 0, .str "/claim/cut.py" 838], #[]⟩
noncomputable def o330 (P : Params) : Obj := ⟨.type "function", none, .func ⟨"is_inside", "is_inside", (fA (tS 34)), (.stmts (fB (tS 34))), (fS (tS 34)), 3, [], .none, .none, .none, .str "heldfloods.flows" 827, none, .ref 493, .none, 0⟩, #[]⟩
noncomputable def o331 (P : Params) : Obj := ⟨.type "tuple", none, .seq #[.str "x" 843, .str "y" 844] 0, #[]⟩
noncomputable def o332 (P : Params) : Obj := ⟨.none, none, .func ⟨"beside", "beside", (fA (tS 35)), (.stmts (fB (tS 35))), (fS (tS 35)), 0, [], .none, .none, .none, .none, none, .none, .none, 0⟩, #[]⟩
noncomputable def o333 (P : Params) : Obj := ⟨.type "code", none, .fields #[.str "beside" 840, .str "beside" 841, .str "/claim/cut.py" 842, .int (229) 0, .int (2) 0, .int (0) 0, .int (0) 0, .int (3) 0, .ref 495, .bool true, .int (181) 0, .ref 496, .none, .ref 497, .ref 498, .ref 499, .int (845) 0, .int (229) 0, .str "/claim/cut.py" 846], #[]⟩
noncomputable def o334 (P : Params) : Obj := ⟨.type "function", none, .func ⟨"beside", "beside", (fA (tS 35)), (.stmts (fB (tS 35))), (fS (tS 35)), 3, [], .none, .none, .none, .str "heldfloods.flows" 827, none, .ref 500, .none, 0⟩, #[]⟩
noncomputable def o335 (P : Params) : Obj := ⟨.type "tuple", none, .seq #[.str "rows" 851, .str "x" 852, .str "y" 853, .str "found" 854, .str "waiting" 855, .str "at" 856, .str "here" 857, .str "there" 858] 0, #[]⟩
noncomputable def o336 (P : Params) : Obj := ⟨.none, none, .func ⟨"spread", "spread", (fA (tS 36)), (.stmts (fB (tS 36))), (fS (tS 36)), 0, [], .none, .none, .none, .none, none, .none, .none, 0⟩, #[]⟩
noncomputable def o337 (P : Params) : Obj := ⟨.type "code", none, .fields #[.str "spread" 848, .str "spread" 849, .str "/claim/cut.py" 850, .int (231) 0, .int (3) 0, .int (0) 0, .int (0) 0, .int (3) 0, .ref 502, .bool true, .int (181) 0, .ref 503, .none, .ref 504, .ref 505, .ref 506, .int (859) 0, .int (231) 0, .str "/claim/cut.py" 860], #[]⟩
noncomputable def o338 (P : Params) : Obj := ⟨.type "function", none, .func ⟨"spread", "spread", (fA (tS 36)), (.stmts (fB (tS 36))), (fS (tS 36)), 3, [], .none, .none, .none, .str "heldfloods.flows" 827, none, .ref 507, .none, 0⟩, #[]⟩
noncomputable def o339 (P : Params) : Obj := ⟨.none, none, .func ⟨"in_order", "in_order", (fA (tS 37)), (.stmts (fB (tS 37))), (fS (tS 37)), 0, [], .none, .none, .none, .none, none, .none, .none, 0⟩, #[]⟩
noncomputable def o340 (P : Params) : Obj := ⟨.type "code", none, .fields #[.str "in_order" 862, .str "in_order" 863, .str "/claim/cut.py" 864, .int (243) 0, .int (1) 0, .int (0) 0, .int (0) 0, .int (3) 0, .ref 509, .bool true, .int (181) 0, .ref 510, .none, .none, .none, .ref 511, .int (865) 0, .int (243) 0, .str "/claim/cut.py" 866], #[]⟩
noncomputable def o341 (P : Params) : Obj := ⟨.type "function", none, .func ⟨"in_order", "in_order", (fA (tS 37)), (.stmts (fB (tS 37))), (fS (tS 37)), 3, [], .none, .none, .none, .str "heldfloods.flows" 827, none, .ref 512, .none, 0⟩, #[]⟩
noncomputable def o342 (P : Params) : Obj := ⟨.type "tuple", none, .seq #[.str "value" 877] 0, #[]⟩
noncomputable def o343 (P : Params) : Obj := ⟨.none, none, .func ⟨"is_colour", "is_colour", (fA (tS 41)), (.stmts (fB (tS 41))), (fS (tS 41)), 0, [], .none, .none, .none, .none, none, .none, .none, 0⟩, #[]⟩
noncomputable def o344 (P : Params) : Obj := ⟨.type "code", none, .fields #[.str "is_colour" 874, .str "is_colour" 875, .str "/claim/cut.py" 876, .int (248) 0, .int (1) 0, .int (0) 0, .int (0) 0, .int (3) 0, .ref 514, .bool true, .int (181) 0, .ref 515, .none, .ref 516, .ref 517, .ref 518, .int (878) 0, .int (248) 0, .str "/claim/cut.py" 879], #[]⟩
noncomputable def o345 (P : Params) : Obj := ⟨.type "function", none, .func ⟨"is_colour", "is_colour", (fA (tS 41)), (.stmts (fB (tS 41))), (fS (tS 41)), 3, [], .none, .none, .none, .str "heldfloods.pictures" 868, none, .ref 519, .none, 0⟩, #[]⟩
noncomputable def o346 (P : Params) : Obj := ⟨.type "tuple", none, .seq #[.str "value" 884] 0, #[]⟩
noncomputable def o347 (P : Params) : Obj := ⟨.none, none, .func ⟨"need_colour", "need_colour", (fA (tS 42)), (.stmts (fB (tS 42))), (fS (tS 42)), 0, [], .none, .none, .none, .none, none, .none, .none, 0⟩, #[]⟩
noncomputable def o348 (P : Params) : Obj := ⟨.type "code", none, .fields #[.str "need_colour" 881, .str "need_colour" 882, .str "/claim/cut.py" 883, .int (250) 0, .int (1) 0, .int (0) 0, .int (0) 0, .int (3) 0, .ref 521, .bool true, .int (181) 0, .ref 522, .none, .ref 523, .ref 524, .ref 525, .int (885) 0, .int (250) 0, .str "/claim/cut.py" 886], #[]⟩
noncomputable def o349 (P : Params) : Obj := ⟨.type "function", none, .func ⟨"need_colour", "need_colour", (fA (tS 42)), (.stmts (fB (tS 42))), (fS (tS 42)), 3, [], .none, .none, .none, .str "heldfloods.pictures" 868, none, .ref 526, .none, 0⟩, #[]⟩
noncomputable def o350 (P : Params) : Obj := ⟨.type "tuple", none, .seq #[.str "value" 891] 0, #[]⟩
noncomputable def o351 (P : Params) : Obj := ⟨.none, none, .func ⟨"need_axis", "need_axis", (fA (tS 43)), (.stmts (fB (tS 43))), (fS (tS 43)), 0, [], .none, .none, .none, .none, none, .none, .none, 0⟩, #[]⟩
noncomputable def o352 (P : Params) : Obj := ⟨.type "code", none, .fields #[.str "need_axis" 888, .str "need_axis" 889, .str "/claim/cut.py" 890, .int (253) 0, .int (1) 0, .int (0) 0, .int (0) 0, .int (3) 0, .ref 528, .bool true, .int (181) 0, .ref 529, .none, .ref 530, .ref 531, .ref 532, .int (892) 0, .int (253) 0, .str "/claim/cut.py" 893], #[]⟩
noncomputable def o353 (P : Params) : Obj := ⟨.type "function", none, .func ⟨"need_axis", "need_axis", (fA (tS 43)), (.stmts (fB (tS 43))), (fS (tS 43)), 3, [], .none, .none, .none, .str "heldfloods.pictures" 868, none, .ref 533, .none, 0⟩, #[]⟩
noncomputable def o354 (P : Params) : Obj := ⟨.type "tuple", none, .seq #[.str "width" 898, .str "height" 899, .str "part" 900, .str "value" 901] 0, #[]⟩
noncomputable def o355 (P : Params) : Obj := ⟨.none, none, .func ⟨"need_sizes", "need_sizes", (fA (tS 44)), (.stmts (fB (tS 44))), (fS (tS 44)), 0, [], .none, .none, .none, .none, none, .none, .none, 0⟩, #[]⟩
noncomputable def o356 (P : Params) : Obj := ⟨.type "code", none, .fields #[.str "need_sizes" 895, .str "need_sizes" 896, .str "/claim/cut.py" 897, .int (256) 0, .int (2) 0, .int (0) 0, .int (0) 0, .int (3) 0, .ref 535, .bool true, .int (181) 0, .ref 536, .none, .ref 537, .ref 538, .ref 539, .int (902) 0, .int (256) 0, .str "/claim/cut.py" 903], #[]⟩
noncomputable def o357 (P : Params) : Obj := ⟨.type "function", none, .func ⟨"need_sizes", "need_sizes", (fA (tS 44)), (.stmts (fB (tS 44))), (fS (tS 44)), 3, [], .none, .none, .none, .str "heldfloods.pictures" 868, none, .ref 540, .none, 0⟩, #[]⟩
noncomputable def o358 (P : Params) : Obj := ⟨.type "tuple", none, .seq #[.str "rows" 908, .str "x" 909, .str "y" 910] 0, #[]⟩
noncomputable def o359 (P : Params) : Obj := ⟨.none, none, .func ⟨"need_pixel", "need_pixel", (fA (tS 45)), (.stmts (fB (tS 45))), (fS (tS 45)), 0, [], .none, .none, .none, .none, none, .none, .none, 0⟩, #[]⟩
noncomputable def o360 (P : Params) : Obj := ⟨.type "code", none, .fields #[.str "need_pixel" 905, .str "need_pixel" 906, .str "/claim/cut.py" 907, .int (260) 0, .int (3) 0, .int (0) 0, .int (0) 0, .int (3) 0, .ref 542, .bool true, .int (181) 0, .ref 543, .none, .ref 544, .ref 545, .ref 546, .int (911) 0, .int (260) 0, .str "/claim/cut.py" 912], #[]⟩
noncomputable def o361 (P : Params) : Obj := ⟨.type "function", none, .func ⟨"need_pixel", "need_pixel", (fA (tS 45)), (.stmts (fB (tS 45))), (fS (tS 45)), 3, [], .none, .none, .none, .str "heldfloods.pictures" 868, none, .ref 547, .none, 0⟩, #[]⟩
noncomputable def o362 (P : Params) : Obj := ⟨.none, none, .func ⟨"is_line", "is_line", (fA (tS 46)), (.stmts (fB (tS 46))), (fS (tS 46)), 0, [], .none, .none, .none, .none, none, .none, .none, 0⟩, #[]⟩
noncomputable def o363 (P : Params) : Obj := ⟨.type "code", none, .fields #[.str "is_line" 914, .str "is_line" 915, .str "/claim/cut.py" 916, .int (263) 0, .int (1) 0, .int (0) 0, .int (0) 0, .int (3) 0, .ref 549, .bool true, .int (181) 0, .ref 550, .none, .none, .none, .ref 551, .int (917) 0, .int (263) 0, .str "/claim/cut.py" 918], #[]⟩
noncomputable def o364 (P : Params) : Obj := ⟨.type "function", none, .func ⟨"is_line", "is_line", (fA (tS 46)), (.stmts (fB (tS 46))), (fS (tS 46)), 3, [], .none, .none, .none, .str "heldfloods.pictures" 868, none, .ref 552, .none, 0⟩, #[]⟩
noncomputable def o365 (P : Params) : Obj := ⟨.type "tuple", none, .seq #[.str "rows" 923, .str "at" 924, .str "row" 925] 0, #[]⟩
noncomputable def o366 (P : Params) : Obj := ⟨.none, none, .func ⟨"wrong_line", "wrong_line", (fA (tS 47)), (.stmts (fB (tS 47))), (fS (tS 47)), 0, [], .none, .none, .none, .none, none, .none, .none, 0⟩, #[]⟩
noncomputable def o367 (P : Params) : Obj := ⟨.type "code", none, .fields #[.str "wrong_line" 920, .str "wrong_line" 921, .str "/claim/cut.py" 922, .int (267) 0, .int (1) 0, .int (0) 0, .int (0) 0, .int (3) 0, .ref 554, .bool true, .int (181) 0, .ref 555, .none, .ref 556, .ref 557, .ref 558, .int (926) 0, .int (267) 0, .str "/claim/cut.py" 927], #[]⟩
noncomputable def o368 (P : Params) : Obj := ⟨.type "function", none, .func ⟨"wrong_line", "wrong_line", (fA (tS 47)), (.stmts (fB (tS 47))), (fS (tS 47)), 3, [], .none, .none, .none, .str "heldfloods.pictures" 868, none, .ref 559, .none, 0⟩, #[]⟩
noncomputable def o369 (P : Params) : Obj := ⟨.none, none, .func ⟨"laid", "laid", (fA (tS 48)), (.stmts (fB (tS 48))), (fS (tS 48)), 0, [], .none, .none, .none, .none, none, .none, .none, 0⟩, #[]⟩
noncomputable def o370 (P : Params) : Obj := ⟨.type "code", none, .fields #[.str "laid" 929, .str "laid" 930, .str "/claim/cut.py" 931, .int (272) 0, .int (2) 0, .int (0) 0, .int (0) 0, .int (3) 0, .ref 561, .bool true, .int (181) 0, .ref 562, .none, .none, .none, .ref 563, .int (932) 0, .int (272) 0, .str "/claim/cut.py" 933], #[]⟩
noncomputable def o371 (P : Params) : Obj := ⟨.type "function", none, .func ⟨"laid", "laid", (fA (tS 48)), (.stmts (fB (tS 48))), (fS (tS 48)), 3, [], .none, .none, .none, .str "heldfloods.pictures" 868, none, .ref 564, .none, 0⟩, #[]⟩
noncomputable def o372 (P : Params) : Obj := ⟨.type "dict", none, .dict #[en P "__name__" 165 (.str "heldfloods.canvases" 1971), en P "__doc__" 166 (.none), en P "__package__" 167 (.none), en P "__loader__" 168 (.builtin "__main__.__loader__#opaque"), en P "__spec__" 169 (.none), en P "__annotations__" 170 (.ref 6), en P "__builtins__" 171 (.ref 4), en P "__file__" 173 (.str "/claim/cut.py" 172), en P "__cached__" 174 (.none), en P "_wall" 193 (.ref 21), en P "HoldError" 213 (.ref 31), en P "BadPlace" 240 (.ref 53), en P "BadSize" 267 (.ref 74), en P "BadColour" 294 (.ref 95), en P "BadPixel" 323 (.ref 116), en P "BadPicture" 350 (.ref 137), en P "BadDeed" 377 (.ref 158), en P "Unlike" 402 (.ref 179), en P "BadText" 431 (.ref 200), en P "DIGITS_places" 435 (.str "0123456789" 434), en P "MOST_PART" 439 (.int (1000000000000) 438), en P "is_whole" 446 (.ref 209), en P "number_in" 452 (.ref 214), en P "value_at" 462 (.ref 221), en P "is_ahead" 471 (.ref 228), en P "Place" 620 (.ref 338), en P "need_offset" 627 (.ref 349), en P "from_left" 635 (.ref 357), en P "from_right" 643 (.ref 365), en P "from_middle" 651 (.ref 373), en P "place_of" 657 (.ref 378), en P "as_place" 663 (.ref 383), en P "need_place" 674 (.ref 390), en P "need_length" 682 (.ref 397), en P "Box" 787 (.ref 462), en P "pixels_in" 802 (.ref 473), en P "is_rim" 816 (.ref 480), en P "is_pixel" 826 (.ref 487), en P "BESIDE" 830 (.int (1000) 829), en P "is_inside" 839 (.ref 494), en P "beside" 847 (.ref 501), en P "spread" 861 (.ref 508), en P "in_order" 867 (.ref 513), en P "DIGITS_pictures" 871 (.str "0123456789" 870), en P "MOST_SIZE" 873 (.int (200) 872), en P "is_colour" 880 (.ref 520), en P "need_colour" 887 (.ref 527), en P "need_axis" 894 (.ref 534), en P "need_sizes" 904 (.ref 541), en P "need_pixel" 913 (.ref 548), en P "is_line" 919 (.ref 553), en P "wrong_line" 928 (.ref 560), en P "laid" 934 (.ref 565), en P "shared" 940 (.ref 570), en P "parted" 946 (.ref 575), en P "is_part" 952 (.ref 580), en P "Picture" 1159 (.ref 724), en P "need_deeds" 1167 (.ref 733), en P "Deed" 1228 (.ref 778), en P "Boxed" 1265 (.ref 809), en P "Pointed" 1312 (.ref 845), en P "Coloured" 1349 (.ref 874), en P "Blocked" 1395 (.ref 910), en P "Fill" 1450 (.ref 952), en P "Frame" 1517 (.ref 1003), en P "Flood" 1571 (.ref 1045), en P "Copy" 1633 (.ref 1087), en P "Flip" 1694 (.ref 1136), en P "swapped" 1703 (.ref 1145), en P "Swap" 1765 (.ref 1192), en P "neighbours" 1771 (.ref 1199), en P "Grow" 1819 (.ref 1237), en P "lines_of" 1825 (.ref 1244), en P "Again" 1890 (.ref 1290), en P "When" 1970 (.ref 1348), en P "Canvas" 2128 (.ref 1464)] 76, #[]⟩
noncomputable def o373 (P : Params) : Obj := ⟨.none, none, .fields #[.int (1) 0, .int (0) 0, .ref 20, .int (5) 0, .int (0) 0, .ref 27, .int (7) 0, .int (0) 0, .ref 41, .int (12) 0, .int (0) 0, .ref 62, .int (17) 0, .int (0) 0, .ref 83, .int (22) 0, .int (0) 0, .ref 104, .int (28) 0, .int (0) 0, .ref 125, .int (33) 0, .int (0) 0, .ref 146, .int (38) 0, .int (0) 0, .ref 167, .int (42) 0, .int (0) 0, .ref 188, .int (51) 0, .int (0) 0, .ref 208, .int (53) 0, .int (0) 0, .ref 213, .int (59) 0, .int (0) 0, .ref 220, .int (61) 0, .int (0) 0, .ref 227, .int (63) 0, .int (0) 0, .ref 234, .int (144) 0, .int (0) 0, .ref 348, .int (147) 0, .int (0) 0, .ref 356, .int (150) 0, .int (0) 0, .ref 364, .int (153) 0, .int (0) 0, .ref 372, .int (156) 0, .int (0) 0, .ref 377, .int (169) 0, .int (0) 0, .ref 382, .int (176) 0, .int (0) 0, .ref 389, .int (181) 0, .int (0) 0, .ref 396, .int (184) 0, .int (0) 0, .ref 403, .int (215) 0, .int (0) 0, .ref 472, .int (220) 0, .int (0) 0, .ref 479, .int (223) 0, .int (0) 0, .ref 486, .int (227) 0, .int (0) 0, .ref 493, .int (229) 0, .int (0) 0, .ref 500, .int (231) 0, .int (0) 0, .ref 507, .int (243) 0, .int (0) 0, .ref 512, .int (248) 0, .int (0) 0, .ref 519, .int (250) 0, .int (0) 0, .ref 526, .int (253) 0, .int (0) 0, .ref 533, .int (256) 0, .int (0) 0, .ref 540, .int (260) 0, .int (0) 0, .ref 547, .int (263) 0, .int (0) 0, .ref 552, .int (267) 0, .int (0) 0, .ref 559, .int (272) 0, .int (0) 0, .ref 564, .int (274) 0, .int (0) 0, .ref 569, .int (276) 0, .int (0) 0, .ref 574, .int (278) 0, .int (0) 0, .ref 579, .int (280) 0, .int (0) 0, .ref 586, .int (385) 0, .int (0) 0, .ref 732, .int (388) 0, .int (0) 0, .ref 739, .int (407) 0, .int (0) 0, .ref 789, .int (418) 0, .int (0) 0, .ref 818, .int (431) 0, .int (0) 0, .ref 854, .int (441) 0, .int (0) 0, .ref 883, .int (457) 0, .int (0) 0, .ref 919, .int (472) 0, .int (0) 0, .ref 961, .int (497) 0, .int (0) 0, .ref 1012, .int (513) 0, .int (0) 0, .ref 1054, .int (533) 0, .int (0) 0, .ref 1096, .int (558) 0, .int (0) 0, .ref 1144, .int (562) 0, .int (0) 0, .ref 1152, .int (585) 0, .int (0) 0, .ref 1198, .int (588) 0, .int (0) 0, .ref 1206, .int (607) 0, .int (0) 0, .ref 1243, .int (609) 0, .int (0) 0, .ref 1251, .int (635) 0, .int (0) 0, .ref 1299, .int (671) 0, .int (0) 0, .ref 1356], #[]⟩
noncomputable def o374 (P : Params) : Obj := ⟨.none, none, .func ⟨"shared", "shared", (fA (tS 49)), (.stmts (fB (tS 49))), (fS (tS 48)), 0, [], .none, .none, .none, .none, none, .none, .none, 0⟩, #[]⟩
noncomputable def o375 (P : Params) : Obj := ⟨.type "code", none, .fields #[.str "shared" 935, .str "shared" 936, .str "/claim/cut.py" 937, .int (274) 0, .int (2) 0, .int (0) 0, .int (0) 0, .int (3) 0, .ref 566, .bool true, .int (181) 0, .ref 567, .none, .none, .none, .ref 568, .int (938) 0, .int (274) 0, .str "/claim/cut.py" 939], #[]⟩
noncomputable def o376 (P : Params) : Obj := ⟨.type "function", none, .func ⟨"shared", "shared", (fA (tS 49)), (.stmts (fB (tS 49))), (fS (tS 48)), 3, [], .none, .none, .none, .str "heldfloods.pictures" 868, none, .ref 569, .none, 0⟩, #[]⟩
noncomputable def o377 (P : Params) : Obj := ⟨.none, none, .func ⟨"parted", "parted", (fA (tS 50)), (.stmts (fB (tS 50))), (fS (tS 48)), 0, [], .none, .none, .none, .none, none, .none, .none, 0⟩, #[]⟩
noncomputable def o378 (P : Params) : Obj := ⟨.type "code", none, .fields #[.str "parted" 941, .str "parted" 942, .str "/claim/cut.py" 943, .int (276) 0, .int (2) 0, .int (0) 0, .int (0) 0, .int (3) 0, .ref 571, .bool true, .int (181) 0, .ref 572, .none, .none, .none, .ref 573, .int (944) 0, .int (276) 0, .str "/claim/cut.py" 945], #[]⟩
noncomputable def o379 (P : Params) : Obj := ⟨.type "function", none, .func ⟨"parted", "parted", (fA (tS 50)), (.stmts (fB (tS 50))), (fS (tS 48)), 3, [], .none, .none, .none, .str "heldfloods.pictures" 868, none, .ref 574, .none, 0⟩, #[]⟩
noncomputable def o380 (P : Params) : Obj := ⟨.none, none, .func ⟨"is_part", "is_part", (fA (tS 51)), (.stmts (fB (tS 51))), (fS (tS 51)), 0, [], .none, .none, .none, .none, none, .none, .none, 0⟩, #[]⟩
noncomputable def o381 (P : Params) : Obj := ⟨.type "code", none, .fields #[.str "is_part" 947, .str "is_part" 948, .str "/claim/cut.py" 949, .int (278) 0, .int (2) 0, .int (0) 0, .int (0) 0, .int (3) 0, .ref 576, .bool true, .int (181) 0, .ref 577, .none, .none, .none, .ref 578, .int (950) 0, .int (278) 0, .str "/claim/cut.py" 951], #[]⟩
noncomputable def o382 (P : Params) : Obj := ⟨.type "function", none, .func ⟨"is_part", "is_part", (fA (tS 51)), (.stmts (fB (tS 51))), (fS (tS 51)), 3, [], .none, .none, .none, .str "heldfloods.pictures" 868, none, .ref 579, .none, 0⟩, #[]⟩
noncomputable def o383 (P : Params) : Obj := ⟨.type "dict", none, .dict #[en P "__module__" 960 (.str "heldfloods.pictures" 868), en P "__qualname__" 962 (.str "Picture" 961), en P "__firstlineno__" 964 (.int (280) 963), en P "MOST" 966 (.int (200) 965), en P "__init__" 975 (.ref 594), en P "plain" 997 (.ref 604), en P "read" 1019 (.ref 614), en P "area" 1027 (.ref 622), en P "flipped" 1033 (.ref 627), en P "region" 1042 (.ref 634), en P "way" 1053 (.ref 641), en P "need_like" 1061 (.ref 648), en P "__getitem__" 1071 (.ref 655), en P "__iter__" 1078 (.ref 662), en P "__contains__" 1084 (.ref 667), en P "__eq__" 1092 (.ref 674), en P "__le__" 1098 (.ref 679), en P "__lt__" 1104 (.ref 684), en P "__ge__" 1110 (.ref 689), en P "__gt__" 1116 (.ref 694), en P "__or__" 1122 (.ref 699), en P "__and__" 1128 (.ref 704), en P "__xor__" 1134 (.ref 709), en P "__invert__" 1140 (.ref 714), en P "__str__" 1147 (.ref 721), en P "__static_attributes__" 1151 (.ref 722)] 26, #[]⟩
noncomputable def o384 (P : Params) : Obj := ⟨.none, none, .fields #[.int (283) 0, .int (4) 0, .ref 593, .int (294) 0, .int (4) 0, .ref 601, .int (298) 0, .int (4) 0, .ref 611, .int (309) 0, .int (4) 0, .ref 621, .int (312) 0, .int (4) 0, .ref 626, .int (318) 0, .int (4) 0, .ref 633, .int (322) 0, .int (4) 0, .ref 640, .int (325) 0, .int (4) 0, .ref 647, .int (329) 0, .int (4) 0, .ref 654, .int (334) 0, .int (4) 0, .ref 661, .int (337) 0, .int (4) 0, .ref 666, .int (340) 0, .int (4) 0, .ref 673, .int (343) 0, .int (4) 0, .ref 678, .int (349) 0, .int (4) 0, .ref 683, .int (355) 0, .int (4) 0, .ref 688, .int (361) 0, .int (4) 0, .ref 693, .int (367) 0, .int (4) 0, .ref 698, .int (371) 0, .int (4) 0, .ref 703, .int (375) 0, .int (4) 0, .ref 708, .int (379) 0, .int (4) 0, .ref 713, .int (382) 0, .int (4) 0, .ref 720], #[]⟩
noncomputable def o385 (P : Params) : Obj := ⟨.type "code", none, .fields #[.str "Picture" 955, .str "Picture" 956, .str "/claim/cut.py" 957, .int (280) 0, .int (0) 0, .int (0) 0, .int (0) 0, .int (0) 0, .ref 584, .bool false, .int (181) 0, .ref 585, .none, .none, .none, .none, .int (958) 0, .int (280) 0, .str "/claim/cut.py" 959], #[]⟩
noncomputable def o386 (P : Params) : Obj := ⟨.type "frame", none, .plain, #[some (.ref 586), some (.ref 3), some (.ref 583), none, some (.str "heldfloods.pictures" 868), none, some (.ref 0)]⟩
noncomputable def o387 (P : Params) : Obj := ⟨.type "tuple", none, .seq #[.str "self" 970, .str "rows" 971, .str "wrong" 972] 0, #[]⟩
noncomputable def o388 (P : Params) : Obj := ⟨.none, none, .func ⟨"__init__", "Picture.__init__", (fA (iC 52 1)), (.stmts (fB (iC 52 1))), (fS (iC 52 1)), 0, [], .none, .none, .none, .none, none, .none, .none, 0⟩, #[]⟩
noncomputable def o389 (P : Params) : Obj := ⟨.type "code", none, .fields #[.str "__init__" 967, .str "Picture.__init__" 968, .str "/claim/cut.py" 969, .int (283) 0, .int (2) 0, .int (0) 0, .int (0) 0, .int (3) 0, .ref 588, .bool true, .int (181) 0, .ref 589, .none, .ref 590, .ref 591, .ref 592, .int (973) 0, .int (283) 0, .str "/claim/cut.py" 974], #[]⟩
noncomputable def o390 (P : Params) : Obj := ⟨.type "function", none, .func ⟨"__init__", "Picture.__init__", (fA (iC 52 1)), (.stmts (fB (iC 52 1))), (fS (iC 52 1)), 3, [], .none, .none, .none, .str "heldfloods.pictures" 868, none, .ref 593, .none, 0⟩, #[]⟩
noncomputable def o391 (P : Params) : Obj := ⟨.type "tuple", none, .seq #[.int (0) 976] 0, #[]⟩
noncomputable def o392 (P : Params) : Obj := ⟨.type "tuple", none, .seq #[.str "width" 980, .str "height" 981, .str "colour" 982] 0, #[]⟩
noncomputable def o393 (P : Params) : Obj := ⟨.none, none, .func ⟨"plain", "Picture.plain", (fA (iC 52 2)), (.stmts (fB (iC 52 2))), (fS (iC 52 2)), 0, [], .none, .none, .none, .none, none, .none, .none, 0⟩, #[]⟩
noncomputable def o394 (P : Params) : Obj := ⟨.type "code", none, .fields #[.str "plain" 977, .str "Picture.plain" 978, .str "/claim/cut.py" 979, .int (293) 0, .int (3) 0, .int (0) 0, .int (0) 0, .int (3) 0, .ref 596, .bool true, .int (181) 0, .ref 597, .none, .ref 598, .ref 599, .ref 600, .int (983) 0, .int (293) 0, .str "/claim/cut.py" 984], #[]⟩
noncomputable def o395 (P : Params) : Obj := ⟨.type "function", none, .func ⟨"plain", "Picture.plain", (fA (iC 52 2)), (.stmts (fB (iC 52 2))), (fS (iC 52 2)), 3, [], .ref 595, .none, .none, .str "heldfloods.pictures" 868, some (605), .ref 601, .none, 0⟩, #[]⟩
noncomputable def o396 (P : Params) : Obj := ⟨.type "dict", none, .dict #[en P "__module__" 986 (.str "heldfloods.pictures" 868), en P "__name__" 989 (.str "plain" 988), en P "__qualname__" 992 (.str "Picture.plain" 991), en P "__doc__" 994 (.none), en P "__annotations__" 996 (.ref 605)] 5, #[]⟩
noncomputable def o397 (P : Params) : Obj := ⟨.type "staticmethod", some (603), .fields #[.ref 602, .bool false], #[]⟩
noncomputable def o398 (P : Params) : Obj := ⟨.type "tuple", none, .seq #[.str "cls" 1001, .str "text" 1002, .str "lines" 1003, .str "wrong" 1004] 0, #[]⟩
noncomputable def o399 (P : Params) : Obj := ⟨.none, none, .func ⟨"read", "Picture.read", (fA (iC 52 3)), (.stmts (fB (iC 52 3))), (fS (iC 52 3)), 0, [], .none, .none, .none, .none, none, .none, .none, 0⟩, #[]⟩
noncomputable def o400 (P : Params) : Obj := ⟨.type "code", none, .fields #[.str "read" 998, .str "Picture.read" 999, .str "/claim/cut.py" 1000, .int (297) 0, .int (2) 0, .int (0) 0, .int (0) 0, .int (3) 0, .ref 606, .bool true, .int (181) 0, .ref 607, .none, .ref 608, .ref 609, .ref 610, .int (1005) 0, .int (297) 0, .str "/claim/cut.py" 1006], #[]⟩
noncomputable def o401 (P : Params) : Obj := ⟨.type "function", none, .func ⟨"read", "Picture.read", (fA (iC 52 3)), (.stmts (fB (iC 52 3))), (fS (iC 52 3)), 3, [], .none, .none, .none, .str "heldfloods.pictures" 868, some (615), .ref 611, .none, 0⟩, #[]⟩
noncomputable def o402 (P : Params) : Obj := ⟨.type "dict", none, .dict #[en P "__module__" 1008 (.str "heldfloods.pictures" 868), en P "__name__" 1011 (.str "read" 1010), en P "__qualname__" 1014 (.str "Picture.read" 1013), en P "__doc__" 1016 (.none), en P "__annotations__" 1018 (.ref 615)] 5, #[]⟩
noncomputable def o403 (P : Params) : Obj := ⟨.type "classmethod", some (613), .fields #[.ref 612, .bool false], #[]⟩
noncomputable def o404 (P : Params) : Obj := ⟨.type "tuple", none, .seq #[.str "self" 1023, .str "colour" 1024] 0, #[]⟩
noncomputable def o405 (P : Params) : Obj := ⟨.none, none, .func ⟨"area", "Picture.area", (fA (iC 52 4)), (.stmts (fB (iC 52 4))), (fS (iC 52 4)), 0, [], .none, .none, .none, .none, none, .none, .none, 0⟩, #[]⟩
noncomputable def o406 (P : Params) : Obj := ⟨.type "code", none, .fields #[.str "area" 1020, .str "Picture.area" 1021, .str "/claim/cut.py" 1022, .int (309) 0, .int (2) 0, .int (0) 0, .int (0) 0, .int (3) 0, .ref 616, .bool true, .int (181) 0, .ref 617, .none, .ref 618, .ref 619, .ref 620, .int (1025) 0, .int (309) 0, .str "/claim/cut.py" 1026], #[]⟩
noncomputable def o407 (P : Params) : Obj := ⟨.type "function", none, .func ⟨"area", "Picture.area", (fA (iC 52 4)), (.stmts (fB (iC 52 4))), (fS (iC 52 4)), 3, [], .none, .none, .none, .str "heldfloods.pictures" 868, none, .ref 621, .none, 0⟩, #[]⟩
noncomputable def o408 (P : Params) : Obj := ⟨.none, none, .func ⟨"flipped", "Picture.flipped", (fA (iC 52 5)), (.stmts (fB (iC 52 5))), (fS (iC 52 5)), 0, [], .none, .none, .none, .none, none, .none, .none, 0⟩, #[]⟩
noncomputable def o409 (P : Params) : Obj := ⟨.type "code", none, .fields #[.str "flipped" 1028, .str "Picture.flipped" 1029, .str "/claim/cut.py" 1030, .int (312) 0, .int (2) 0, .int (0) 0, .int (0) 0, .int (3) 0, .ref 623, .bool true, .int (181) 0, .ref 624, .none, .none, .none, .ref 625, .int (1031) 0, .int (312) 0, .str "/claim/cut.py" 1032], #[]⟩
noncomputable def o410 (P : Params) : Obj := ⟨.type "function", none, .func ⟨"flipped", "Picture.flipped", (fA (iC 52 5)), (.stmts (fB (iC 52 5))), (fS (iC 52 5)), 3, [], .none, .none, .none, .str "heldfloods.pictures" 868, none, .ref 626, .none, 0⟩, #[]⟩
noncomputable def o411 (P : Params) : Obj := ⟨.type "tuple", none, .seq #[.str "self" 1037, .str "x" 1038, .str "y" 1039] 0, #[]⟩
noncomputable def o412 (P : Params) : Obj := ⟨.none, none, .func ⟨"region", "Picture.region", (fA (iC 52 6)), (.stmts (fB (iC 52 6))), (fS (iC 52 6)), 0, [], .none, .none, .none, .none, none, .none, .none, 0⟩, #[]⟩
noncomputable def o413 (P : Params) : Obj := ⟨.type "code", none, .fields #[.str "region" 1034, .str "Picture.region" 1035, .str "/claim/cut.py" 1036, .int (318) 0, .int (3) 0, .int (0) 0, .int (0) 0, .int (3) 0, .ref 628, .bool true, .int (181) 0, .ref 629, .none, .ref 630, .ref 631, .ref 632, .int (1040) 0, .int (318) 0, .str "/claim/cut.py" 1041], #[]⟩
noncomputable def o414 (P : Params) : Obj := ⟨.type "function", none, .func ⟨"region", "Picture.region", (fA (iC 52 6)), (.stmts (fB (iC 52 6))), (fS (iC 52 6)), 3, [], .none, .none, .none, .str "heldfloods.pictures" 868, none, .ref 633, .none, 0⟩, #[]⟩
noncomputable def o415 (P : Params) : Obj := ⟨.type "tuple", none, .seq #[.str "self" 1046, .str "x" 1047, .str "y" 1048, .str "to_x" 1049, .str "to_y" 1050] 0, #[]⟩
noncomputable def o416 (P : Params) : Obj := ⟨.none, none, .func ⟨"way", "Picture.way", (fA (iC 52 7)), (.stmts (fB (iC 52 7))), (fS (iC 52 7)), 0, [], .none, .none, .none, .none, none, .none, .none, 0⟩, #[]⟩
noncomputable def o417 (P : Params) : Obj := ⟨.type "code", none, .fields #[.str "way" 1043, .str "Picture.way" 1044, .str "/claim/cut.py" 1045, .int (322) 0, .int (5) 0, .int (0) 0, .int (0) 0, .int (3) 0, .ref 635, .bool true, .int (181) 0, .ref 636, .none, .ref 637, .ref 638, .ref 639, .int (1051) 0, .int (322) 0, .str "/claim/cut.py" 1052], #[]⟩
noncomputable def o418 (P : Params) : Obj := ⟨.type "function", none, .func ⟨"way", "Picture.way", (fA (iC 52 7)), (.stmts (fB (iC 52 7))), (fS (iC 52 7)), 3, [], .none, .none, .none, .str "heldfloods.pictures" 868, none, .ref 640, .none, 0⟩, #[]⟩
noncomputable def o419 (P : Params) : Obj := ⟨.type "tuple", none, .seq #[.str "self" 1057, .str "other" 1058] 0, #[]⟩
noncomputable def o420 (P : Params) : Obj := ⟨.none, none, .func ⟨"need_like", "Picture.need_like", (fA (iC 52 8)), (.stmts (fB (iC 52 8))), (fS (iC 52 8)), 0, [], .none, .none, .none, .none, none, .none, .none, 0⟩, #[]⟩
noncomputable def o421 (P : Params) : Obj := ⟨.type "code", none, .fields #[.str "need_like" 1054, .str "Picture.need_like" 1055, .str "/claim/cut.py" 1056, .int (325) 0, .int (2) 0, .int (0) 0, .int (0) 0, .int (3) 0, .ref 642, .bool true, .int (181) 0, .ref 643, .none, .ref 644, .ref 645, .ref 646, .int (1059) 0, .int (325) 0, .str "/claim/cut.py" 1060], #[]⟩
noncomputable def o422 (P : Params) : Obj := ⟨.type "function", none, .func ⟨"need_like", "Picture.need_like", (fA (iC 52 8)), (.stmts (fB (iC 52 8))), (fS (iC 52 8)), 3, [], .none, .none, .none, .str "heldfloods.pictures" 868, none, .ref 647, .none, 0⟩, #[]⟩
noncomputable def o423 (P : Params) : Obj := ⟨.type "tuple", none, .seq #[.str "self" 1065, .str "at" 1066, .str "x" 1067, .str "y" 1068] 0, #[]⟩
noncomputable def o424 (P : Params) : Obj := ⟨.none, none, .func ⟨"__getitem__", "Picture.__getitem__", (fA (iC 52 9)), (.stmts (fB (iC 52 9))), (fS (iC 52 9)), 0, [], .none, .none, .none, .none, none, .none, .none, 0⟩, #[]⟩
noncomputable def o425 (P : Params) : Obj := ⟨.type "code", none, .fields #[.str "__getitem__" 1062, .str "Picture.__getitem__" 1063, .str "/claim/cut.py" 1064, .int (329) 0, .int (2) 0, .int (0) 0, .int (0) 0, .int (3) 0, .ref 649, .bool true, .int (181) 0, .ref 650, .none, .ref 651, .ref 652, .ref 653, .int (1069) 0, .int (329) 0, .str "/claim/cut.py" 1070], #[]⟩
noncomputable def o426 (P : Params) : Obj := ⟨.type "function", none, .func ⟨"__getitem__", "Picture.__getitem__", (fA (iC 52 9)), (.stmts (fB (iC 52 9))), (fS (iC 52 9)), 3, [], .none, .none, .none, .str "heldfloods.pictures" 868, none, .ref 654, .none, 0⟩, #[]⟩
noncomputable def o427 (P : Params) : Obj := ⟨.type "tuple", none, .seq #[.str "self" 1075] 0, #[]⟩
noncomputable def o428 (P : Params) : Obj := ⟨.none, none, .func ⟨"__iter__", "Picture.__iter__", (fA (iC 52 10)), (.stmts (fB (iC 52 10))), (fS (iC 52 10)), 0, [], .none, .none, .none, .none, none, .none, .none, 0⟩, #[]⟩
noncomputable def o429 (P : Params) : Obj := ⟨.type "code", none, .fields #[.str "__iter__" 1072, .str "Picture.__iter__" 1073, .str "/claim/cut.py" 1074, .int (334) 0, .int (1) 0, .int (0) 0, .int (0) 0, .int (3) 0, .ref 656, .bool true, .int (181) 0, .ref 657, .none, .ref 658, .ref 659, .ref 660, .int (1076) 0, .int (334) 0, .str "/claim/cut.py" 1077], #[]⟩
noncomputable def o430 (P : Params) : Obj := ⟨.type "function", none, .func ⟨"__iter__", "Picture.__iter__", (fA (iC 52 10)), (.stmts (fB (iC 52 10))), (fS (iC 52 10)), 3, [], .none, .none, .none, .str "heldfloods.pictures" 868, none, .ref 661, .none, 0⟩, #[]⟩
noncomputable def o431 (P : Params) : Obj := ⟨.none, none, .func ⟨"__contains__", "Picture.__contains__", (fA (iC 52 11)), (.stmts (fB (iC 52 11))), (fS (iC 52 11)), 0, [], .none, .none, .none, .none, none, .none, .none, 0⟩, #[]⟩
noncomputable def o432 (P : Params) : Obj := ⟨.type "code", none, .fields #[.str "__contains__" 1079, .str "Picture.__contains__" 1080, .str "/claim/cut.py" 1081, .int (337) 0, .int (2) 0, .int (0) 0, .int (0) 0, .int (3) 0, .ref 663, .bool true, .int (181) 0, .ref 664, .none, .none, .none, .ref 665, .int (1082) 0, .int (337) 0, .str "/claim/cut.py" 1083], #[]⟩
noncomputable def o433 (P : Params) : Obj := ⟨.type "function", none, .func ⟨"__contains__", "Picture.__contains__", (fA (iC 52 11)), (.stmts (fB (iC 52 11))), (fS (iC 52 11)), 3, [], .none, .none, .none, .str "heldfloods.pictures" 868, none, .ref 666, .none, 0⟩, #[]⟩
noncomputable def o434 (P : Params) : Obj := ⟨.type "tuple", none, .seq #[.str "self" 1088, .str "other" 1089] 0, #[]⟩
noncomputable def o435 (P : Params) : Obj := ⟨.none, none, .func ⟨"__eq__", "Picture.__eq__", (fA (iC 52 12)), (.stmts (fB (iC 52 12))), (fS (iC 52 12)), 0, [], .none, .none, .none, .none, none, .none, .none, 0⟩, #[]⟩
noncomputable def o436 (P : Params) : Obj := ⟨.type "code", none, .fields #[.str "__eq__" 1085, .str "Picture.__eq__" 1086, .str "/claim/cut.py" 1087, .int (340) 0, .int (2) 0, .int (0) 0, .int (0) 0, .int (3) 0, .ref 668, .bool true, .int (181) 0, .ref 669, .none, .ref 670, .ref 671, .ref 672, .int (1090) 0, .int (340) 0, .str "/claim/cut.py" 1091], #[]⟩
noncomputable def o437 (P : Params) : Obj := ⟨.type "function", none, .func ⟨"__eq__", "Picture.__eq__", (fA (iC 52 12)), (.stmts (fB (iC 52 12))), (fS (iC 52 12)), 3, [], .none, .none, .none, .str "heldfloods.pictures" 868, none, .ref 673, .none, 0⟩, #[]⟩
noncomputable def o438 (P : Params) : Obj := ⟨.none, none, .func ⟨"__le__", "Picture.__le__", (fA (iC 52 13)), (.stmts (fB (iC 52 13))), (fS (iC 52 13)), 0, [], .none, .none, .none, .none, none, .none, .none, 0⟩, #[]⟩
noncomputable def o439 (P : Params) : Obj := ⟨.type "code", none, .fields #[.str "__le__" 1093, .str "Picture.__le__" 1094, .str "/claim/cut.py" 1095, .int (343) 0, .int (2) 0, .int (0) 0, .int (0) 0, .int (3) 0, .ref 675, .bool true, .int (181) 0, .ref 676, .none, .none, .none, .ref 677, .int (1096) 0, .int (343) 0, .str "/claim/cut.py" 1097], #[]⟩
noncomputable def o440 (P : Params) : Obj := ⟨.type "function", none, .func ⟨"__le__", "Picture.__le__", (fA (iC 52 13)), (.stmts (fB (iC 52 13))), (fS (iC 52 13)), 3, [], .none, .none, .none, .str "heldfloods.pictures" 868, none, .ref 678, .none, 0⟩, #[]⟩
noncomputable def o441 (P : Params) : Obj := ⟨.none, none, .func ⟨"__lt__", "Picture.__lt__", (fA (iC 52 14)), (.stmts (fB (iC 52 14))), (fS (iC 52 13)), 0, [], .none, .none, .none, .none, none, .none, .none, 0⟩, #[]⟩
noncomputable def o442 (P : Params) : Obj := ⟨.type "code", none, .fields #[.str "__lt__" 1099, .str "Picture.__lt__" 1100, .str "/claim/cut.py" 1101, .int (349) 0, .int (2) 0, .int (0) 0, .int (0) 0, .int (3) 0, .ref 680, .bool true, .int (181) 0, .ref 681, .none, .none, .none, .ref 682, .int (1102) 0, .int (349) 0, .str "/claim/cut.py" 1103], #[]⟩
noncomputable def o443 (P : Params) : Obj := ⟨.type "function", none, .func ⟨"__lt__", "Picture.__lt__", (fA (iC 52 14)), (.stmts (fB (iC 52 14))), (fS (iC 52 13)), 3, [], .none, .none, .none, .str "heldfloods.pictures" 868, none, .ref 683, .none, 0⟩, #[]⟩
noncomputable def o444 (P : Params) : Obj := ⟨.none, none, .func ⟨"__ge__", "Picture.__ge__", (fA (iC 52 15)), (.stmts (fB (iC 52 15))), (fS (iC 52 13)), 0, [], .none, .none, .none, .none, none, .none, .none, 0⟩, #[]⟩
noncomputable def o445 (P : Params) : Obj := ⟨.type "code", none, .fields #[.str "__ge__" 1105, .str "Picture.__ge__" 1106, .str "/claim/cut.py" 1107, .int (355) 0, .int (2) 0, .int (0) 0, .int (0) 0, .int (3) 0, .ref 685, .bool true, .int (181) 0, .ref 686, .none, .none, .none, .ref 687, .int (1108) 0, .int (355) 0, .str "/claim/cut.py" 1109], #[]⟩
noncomputable def o446 (P : Params) : Obj := ⟨.type "function", none, .func ⟨"__ge__", "Picture.__ge__", (fA (iC 52 15)), (.stmts (fB (iC 52 15))), (fS (iC 52 13)), 3, [], .none, .none, .none, .str "heldfloods.pictures" 868, none, .ref 688, .none, 0⟩, #[]⟩
noncomputable def o447 (P : Params) : Obj := ⟨.none, none, .func ⟨"__gt__", "Picture.__gt__", (fA (iC 52 16)), (.stmts (fB (iC 52 16))), (fS (iC 52 13)), 0, [], .none, .none, .none, .none, none, .none, .none, 0⟩, #[]⟩
noncomputable def o448 (P : Params) : Obj := ⟨.type "code", none, .fields #[.str "__gt__" 1111, .str "Picture.__gt__" 1112, .str "/claim/cut.py" 1113, .int (361) 0, .int (2) 0, .int (0) 0, .int (0) 0, .int (3) 0, .ref 690, .bool true, .int (181) 0, .ref 691, .none, .none, .none, .ref 692, .int (1114) 0, .int (361) 0, .str "/claim/cut.py" 1115], #[]⟩
noncomputable def o449 (P : Params) : Obj := ⟨.type "function", none, .func ⟨"__gt__", "Picture.__gt__", (fA (iC 52 16)), (.stmts (fB (iC 52 16))), (fS (iC 52 13)), 3, [], .none, .none, .none, .str "heldfloods.pictures" 868, none, .ref 693, .none, 0⟩, #[]⟩
noncomputable def o450 (P : Params) : Obj := ⟨.none, none, .func ⟨"__or__", "Picture.__or__", (fA (iC 52 17)), (.stmts (fB (iC 52 17))), (fS (iC 52 17)), 0, [], .none, .none, .none, .none, none, .none, .none, 0⟩, #[]⟩
noncomputable def o451 (P : Params) : Obj := ⟨.type "code", none, .fields #[.str "__or__" 1117, .str "Picture.__or__" 1118, .str "/claim/cut.py" 1119, .int (367) 0, .int (2) 0, .int (0) 0, .int (0) 0, .int (3) 0, .ref 695, .bool true, .int (181) 0, .ref 696, .none, .none, .none, .ref 697, .int (1120) 0, .int (367) 0, .str "/claim/cut.py" 1121], #[]⟩
noncomputable def o452 (P : Params) : Obj := ⟨.type "function", none, .func ⟨"__or__", "Picture.__or__", (fA (iC 52 17)), (.stmts (fB (iC 52 17))), (fS (iC 52 17)), 3, [], .none, .none, .none, .str "heldfloods.pictures" 868, none, .ref 698, .none, 0⟩, #[]⟩
noncomputable def o453 (P : Params) : Obj := ⟨.none, none, .func ⟨"__and__", "Picture.__and__", (fA (iC 52 18)), (.stmts (fB (iC 52 18))), (fS (iC 52 17)), 0, [], .none, .none, .none, .none, none, .none, .none, 0⟩, #[]⟩
noncomputable def o454 (P : Params) : Obj := ⟨.type "code", none, .fields #[.str "__and__" 1123, .str "Picture.__and__" 1124, .str "/claim/cut.py" 1125, .int (371) 0, .int (2) 0, .int (0) 0, .int (0) 0, .int (3) 0, .ref 700, .bool true, .int (181) 0, .ref 701, .none, .none, .none, .ref 702, .int (1126) 0, .int (371) 0, .str "/claim/cut.py" 1127], #[]⟩
noncomputable def o455 (P : Params) : Obj := ⟨.type "function", none, .func ⟨"__and__", "Picture.__and__", (fA (iC 52 18)), (.stmts (fB (iC 52 18))), (fS (iC 52 17)), 3, [], .none, .none, .none, .str "heldfloods.pictures" 868, none, .ref 703, .none, 0⟩, #[]⟩
noncomputable def o456 (P : Params) : Obj := ⟨.none, none, .func ⟨"__xor__", "Picture.__xor__", (fA (iC 52 19)), (.stmts (fB (iC 52 19))), (fS (iC 52 17)), 0, [], .none, .none, .none, .none, none, .none, .none, 0⟩, #[]⟩
noncomputable def o457 (P : Params) : Obj := ⟨.type "code", none, .fields #[.str "__xor__" 1129, .str "Picture.__xor__" 1130, .str "/claim/cut.py" 1131, .int (375) 0, .int (2) 0, .int (0) 0, .int (0) 0, .int (3) 0, .ref 705, .bool true, .int (181) 0, .ref 706, .none, .none, .none, .ref 707, .int (1132) 0, .int (375) 0, .str "/claim/cut.py" 1133], #[]⟩
noncomputable def o458 (P : Params) : Obj := ⟨.type "function", none, .func ⟨"__xor__", "Picture.__xor__", (fA (iC 52 19)), (.stmts (fB (iC 52 19))), (fS (iC 52 17)), 3, [], .none, .none, .none, .str "heldfloods.pictures" 868, none, .ref 708, .none, 0⟩, #[]⟩
noncomputable def o459 (P : Params) : Obj := ⟨.none, none, .func ⟨"__invert__", "Picture.__invert__", (fA (iC 52 20)), (.stmts (fB (iC 52 20))), (fS (iC 52 20)), 0, [], .none, .none, .none, .none, none, .none, .none, 0⟩, #[]⟩
noncomputable def o460 (P : Params) : Obj := ⟨.type "code", none, .fields #[.str "__invert__" 1135, .str "Picture.__invert__" 1136, .str "/claim/cut.py" 1137, .int (379) 0, .int (1) 0, .int (0) 0, .int (0) 0, .int (3) 0, .ref 710, .bool true, .int (181) 0, .ref 711, .none, .none, .none, .ref 712, .int (1138) 0, .int (379) 0, .str "/claim/cut.py" 1139], #[]⟩
noncomputable def o461 (P : Params) : Obj := ⟨.type "function", none, .func ⟨"__invert__", "Picture.__invert__", (fA (iC 52 20)), (.stmts (fB (iC 52 20))), (fS (iC 52 20)), 3, [], .none, .none, .none, .str "heldfloods.pictures" 868, none, .ref 713, .none, 0⟩, #[]⟩
noncomputable def o462 (P : Params) : Obj := ⟨.type "tuple", none, .seq #[.str "self" 1144] 0, #[]⟩
noncomputable def o463 (P : Params) : Obj := ⟨.none, none, .func ⟨"__str__", "Picture.__str__", (fA (iC 52 21)), (.stmts (fB (iC 52 21))), (fS (iC 18 13)), 0, [], .none, .none, .none, .none, none, .none, .none, 0⟩, #[]⟩
noncomputable def o464 (P : Params) : Obj := ⟨.type "code", none, .fields #[.str "__str__" 1141, .str "Picture.__str__" 1142, .str "/claim/cut.py" 1143, .int (382) 0, .int (1) 0, .int (0) 0, .int (0) 0, .int (3) 0, .ref 715, .bool true, .int (181) 0, .ref 716, .none, .ref 717, .ref 718, .ref 719, .int (1145) 0, .int (382) 0, .str "/claim/cut.py" 1146], #[]⟩
noncomputable def o465 (P : Params) : Obj := ⟨.type "function", none, .func ⟨"__str__", "Picture.__str__", (fA (iC 52 21)), (.stmts (fB (iC 52 21))), (fS (iC 18 13)), 3, [], .none, .none, .none, .str "heldfloods.pictures" 868, none, .ref 720, .none, 0⟩, #[]⟩
noncomputable def o466 (P : Params) : Obj := ⟨.type "tuple", none, .seq #[.str "height" 1148, .str "rows" 1149, .str "width" 1150] 0, #[]⟩
noncomputable def o467 (P : Params) : Obj := ⟨.type "dict", none, .dict #[en P "__module__" 960 (.str "heldfloods.pictures" 868), en P "__firstlineno__" 964 (.int (280) 963), en P "MOST" 966 (.int (200) 965), en P "__init__" 975 (.ref 594), en P "plain" 997 (.ref 604), en P "read" 1019 (.ref 614), en P "area" 1027 (.ref 622), en P "flipped" 1033 (.ref 627), en P "region" 1042 (.ref 634), en P "way" 1053 (.ref 641), en P "need_like" 1061 (.ref 648), en P "__getitem__" 1071 (.ref 655), en P "__iter__" 1078 (.ref 662), en P "__contains__" 1084 (.ref 667), en P "__eq__" 1092 (.ref 674), en P "__le__" 1098 (.ref 679), en P "__lt__" 1104 (.ref 684), en P "__ge__" 1110 (.ref 689), en P "__gt__" 1116 (.ref 694), en P "__or__" 1122 (.ref 699), en P "__and__" 1128 (.ref 704), en P "__xor__" 1134 (.ref 709), en P "__invert__" 1140 (.ref 714), en P "__str__" 1147 (.ref 721), en P "__static_attributes__" 1151 (.ref 722), en P "__dict__" 1153 (.ref 725), en P "__weakref__" 1155 (.ref 726), en P "__doc__" 1156 (.none), en P "__hash__" 1157 (.none)] 5, #[]⟩
noncomputable def o468 (P : Params) : Obj := ⟨.type "type", none, .cls ⟨"Picture", [.type "object"], [.ref 724, .type "object"], 723, "Picture", true, [], [], false, none, false⟩, #[none, none, some (.str "Picture" 953), some (.str "Picture" 961), some (.builtin "object.__new__"), some (.bool true)]⟩
noncomputable def o469 (P : Params) : Obj := ⟨.type "getset_descriptor", none, .fields #[.str "__dict__" 1152, .ref 724, .builtin "function.__dict__", .builtin "function.__dict__#set"], #[]⟩
noncomputable def o470 (P : Params) : Obj := ⟨.type "getset_descriptor", none, .fields #[.str "__weakref__" 1154, .ref 724, .builtin "ExceptionGroup.__weakref__", .none], #[]⟩
noncomputable def o471 (P : Params) : Obj := ⟨.type "super", none, .fields #[.ref 724, .ref 724, .ref 724], #[]⟩
noncomputable def o472 (P : Params) : Obj := ⟨.type "builtin_function_or_method", none, .fields #[.builtin "object.__init_subclass__", .ref 724], #[]⟩
noncomputable def o473 (P : Params) : Obj := ⟨.none, none, .func ⟨"need_deeds", "need_deeds", (fA (tS 54)), (.stmts (fB (tS 54))), (fS (tS 54)), 0, [], .none, .none, .none, .none, none, .none, .none, 0⟩, #[]⟩
noncomputable def o474 (P : Params) : Obj := ⟨.type "code", none, .fields #[.str "need_deeds" 1162, .str "need_deeds" 1163, .str "/claim/cut.py" 1164, .int (385) 0, .int (2) 0, .int (0) 0, .int (0) 0, .int (3) 0, .ref 729, .bool true, .int (181) 0, .ref 730, .none, .none, .none, .ref 731, .int (1165) 0, .int (385) 0, .str "/claim/cut.py" 1166], #[]⟩
noncomputable def o475 (P : Params) : Obj := ⟨.type "function", none, .func ⟨"need_deeds", "need_deeds", (fA (tS 54)), (.stmts (fB (tS 54))), (fS (tS 54)), 3, [], .none, .none, .none, .str "heldfloods.deeds" 1160, none, .ref 732, .none, 0⟩, #[]⟩
noncomputable def o476 (P : Params) : Obj := ⟨.type "dict", none, .dict #[en P "__module__" 1175 (.str "heldfloods.deeds" 1160), en P "__qualname__" 1177 (.str "Deed" 1176), en P "__firstlineno__" 1179 (.int (388) 1178), en P "KIND" 1181 (.str "deed" 1180), en P "__init__" 1188 (.ref 747), en P "facts" 1195 (.ref 754), en P "each" 1202 (.ref 761), en P "on" 1210 (.ref 768), en P "__eq__" 1218 (.ref 775), en P "__static_attributes__" 1220 (.ref 776)] 10, #[]⟩
noncomputable def o477 (P : Params) : Obj := ⟨.none, none, .fields #[.int (391) 0, .int (4) 0, .ref 746, .int (394) 0, .int (4) 0, .ref 753, .int (397) 0, .int (4) 0, .ref 760, .int (400) 0, .int (4) 0, .ref 767, .int (403) 0, .int (4) 0, .ref 774], #[]⟩
noncomputable def o478 (P : Params) : Obj := ⟨.type "code", none, .fields #[.str "Deed" 1170, .str "Deed" 1171, .str "/claim/cut.py" 1172, .int (388) 0, .int (0) 0, .int (0) 0, .int (0) 0, .int (0) 0, .ref 737, .bool false, .int (181) 0, .ref 738, .none, .none, .none, .none, .int (1173) 0, .int (388) 0, .str "/claim/cut.py" 1174], #[]⟩
noncomputable def o479 (P : Params) : Obj := ⟨.type "frame", none, .plain, #[some (.ref 739), some (.ref 3), some (.ref 736), none, some (.str "heldfloods.deeds" 1160), none, some (.ref 0)]⟩
noncomputable def o480 (P : Params) : Obj := ⟨.type "tuple", none, .seq #[.str "self" 1185] 0, #[]⟩
noncomputable def o481 (P : Params) : Obj := ⟨.none, none, .func ⟨"__init__", "Deed.__init__", (fA (iC 55 1)), (.stmts (fB (iC 55 1))), (fS (iC 18 13)), 0, [], .none, .none, .none, .none, none, .none, .none, 0⟩, #[]⟩
noncomputable def o482 (P : Params) : Obj := ⟨.type "code", none, .fields #[.str "__init__" 1182, .str "Deed.__init__" 1183, .str "/claim/cut.py" 1184, .int (391) 0, .int (1) 0, .int (0) 0, .int (0) 0, .int (3) 0, .ref 741, .bool true, .int (181) 0, .ref 742, .none, .ref 743, .ref 744, .ref 745, .int (1186) 0, .int (391) 0, .str "/claim/cut.py" 1187], #[]⟩
noncomputable def o483 (P : Params) : Obj := ⟨.type "function", none, .func ⟨"__init__", "Deed.__init__", (fA (iC 55 1)), (.stmts (fB (iC 55 1))), (fS (iC 18 13)), 3, [], .none, .none, .none, .str "heldfloods.deeds" 1160, none, .ref 746, .none, 0⟩, #[]⟩
noncomputable def o484 (P : Params) : Obj := ⟨.type "tuple", none, .seq #[.str "self" 1192] 0, #[]⟩
noncomputable def o485 (P : Params) : Obj := ⟨.none, none, .func ⟨"facts", "Deed.facts", (fA (iC 55 2)), (.stmts (fB (iC 55 2))), (fS (iC 18 13)), 0, [], .none, .none, .none, .none, none, .none, .none, 0⟩, #[]⟩
noncomputable def o486 (P : Params) : Obj := ⟨.type "code", none, .fields #[.str "facts" 1189, .str "Deed.facts" 1190, .str "/claim/cut.py" 1191, .int (394) 0, .int (1) 0, .int (0) 0, .int (0) 0, .int (3) 0, .ref 748, .bool true, .int (181) 0, .ref 749, .none, .ref 750, .ref 751, .ref 752, .int (1193) 0, .int (394) 0, .str "/claim/cut.py" 1194], #[]⟩
noncomputable def o487 (P : Params) : Obj := ⟨.type "function", none, .func ⟨"facts", "Deed.facts", (fA (iC 55 2)), (.stmts (fB (iC 55 2))), (fS (iC 18 13)), 3, [], .none, .none, .none, .str "heldfloods.deeds" 1160, none, .ref 753, .none, 0⟩, #[]⟩
noncomputable def o488 (P : Params) : Obj := ⟨.type "tuple", none, .seq #[.str "self" 1199] 0, #[]⟩
noncomputable def o489 (P : Params) : Obj := ⟨.none, none, .func ⟨"each", "Deed.each", (fA (iC 55 3)), (.stmts (fB (iC 55 3))), (fS (iC 55 3)), 0, [], .none, .none, .none, .none, none, .none, .none, 0⟩, #[]⟩
noncomputable def o490 (P : Params) : Obj := ⟨.type "code", none, .fields #[.str "each" 1196, .str "Deed.each" 1197, .str "/claim/cut.py" 1198, .int (397) 0, .int (1) 0, .int (0) 0, .int (0) 0, .int (35) 0, .ref 755, .bool true, .int (181) 0, .ref 756, .none, .ref 757, .ref 758, .ref 759, .int (1200) 0, .int (397) 0, .str "/claim/cut.py" 1201], #[]⟩
noncomputable def o491 (P : Params) : Obj := ⟨.type "function", none, .func ⟨"each", "Deed.each", (fA (iC 55 3)), (.stmts (fB (iC 55 3))), (fS (iC 55 3)), 3, [], .none, .none, .none, .str "heldfloods.deeds" 1160, none, .ref 760, .none, 0⟩, #[]⟩
noncomputable def o492 (P : Params) : Obj := ⟨.type "tuple", none, .seq #[.str "self" 1206, .str "canvas" 1207] 0, #[]⟩
noncomputable def o493 (P : Params) : Obj := ⟨.none, none, .func ⟨"on", "Deed.on", (fA (iC 55 4)), (.stmts (fB (iC 55 4))), (fS (iC 55 4)), 0, [], .none, .none, .none, .none, none, .none, .none, 0⟩, #[]⟩
noncomputable def o494 (P : Params) : Obj := ⟨.type "code", none, .fields #[.str "on" 1203, .str "Deed.on" 1204, .str "/claim/cut.py" 1205, .int (400) 0, .int (2) 0, .int (0) 0, .int (0) 0, .int (3) 0, .ref 762, .bool true, .int (181) 0, .ref 763, .none, .ref 764, .ref 765, .ref 766, .int (1208) 0, .int (400) 0, .str "/claim/cut.py" 1209], #[]⟩
noncomputable def o495 (P : Params) : Obj := ⟨.type "function", none, .func ⟨"on", "Deed.on", (fA (iC 55 4)), (.stmts (fB (iC 55 4))), (fS (iC 55 4)), 3, [], .none, .none, .none, .str "heldfloods.deeds" 1160, none, .ref 767, .none, 0⟩, #[]⟩
noncomputable def o496 (P : Params) : Obj := ⟨.type "tuple", none, .seq #[.str "self" 1214, .str "other" 1215] 0, #[]⟩
noncomputable def o497 (P : Params) : Obj := ⟨.none, none, .func ⟨"__eq__", "Deed.__eq__", (fA (iC 55 5)), (.stmts (fB (iC 55 5))), (fS (iC 55 5)), 0, [], .none, .none, .none, .none, none, .none, .none, 0⟩, #[]⟩
noncomputable def o498 (P : Params) : Obj := ⟨.type "code", none, .fields #[.str "__eq__" 1211, .str "Deed.__eq__" 1212, .str "/claim/cut.py" 1213, .int (403) 0, .int (2) 0, .int (0) 0, .int (0) 0, .int (3) 0, .ref 769, .bool true, .int (181) 0, .ref 770, .none, .ref 771, .ref 772, .ref 773, .int (1216) 0, .int (403) 0, .str "/claim/cut.py" 1217], #[]⟩
noncomputable def o499 (P : Params) : Obj := ⟨.type "function", none, .func ⟨"__eq__", "Deed.__eq__", (fA (iC 55 5)), (.stmts (fB (iC 55 5))), (fS (iC 55 5)), 3, [], .none, .none, .none, .str "heldfloods.deeds" 1160, none, .ref 774, .none, 0⟩, #[]⟩
noncomputable def o500 (P : Params) : Obj := ⟨.type "tuple", none, .seq #[.str "is_deed" 1219] 0, #[]⟩
noncomputable def o501 (P : Params) : Obj := ⟨.type "dict", none, .dict #[en P "__module__" 1175 (.str "heldfloods.deeds" 1160), en P "__firstlineno__" 1179 (.int (388) 1178), en P "KIND" 1181 (.str "deed" 1180), en P "__init__" 1188 (.ref 747), en P "facts" 1195 (.ref 754), en P "each" 1202 (.ref 761), en P "on" 1210 (.ref 768), en P "__eq__" 1218 (.ref 775), en P "__static_attributes__" 1220 (.ref 776), en P "__dict__" 1222 (.ref 779), en P "__weakref__" 1224 (.ref 780), en P "__doc__" 1225 (.none), en P "__hash__" 1226 (.none)] 5, #[]⟩
noncomputable def o502 (P : Params) : Obj := ⟨.type "type", none, .cls ⟨"Deed", [.type "object"], [.ref 778, .type "object"], 777, "Deed", true, [], [.ref 809, .ref 845, .ref 874, .ref 910, .ref 1136, .ref 1192], false, none, false⟩, #[none, none, some (.str "Deed" 1168), some (.str "Deed" 1176), some (.builtin "object.__new__"), some (.bool true)]⟩
noncomputable def o503 (P : Params) : Obj := ⟨.type "getset_descriptor", none, .fields #[.str "__dict__" 1221, .ref 778, .builtin "function.__dict__", .builtin "function.__dict__#set"], #[]⟩
noncomputable def o504 (P : Params) : Obj := ⟨.type "getset_descriptor", none, .fields #[.str "__weakref__" 1223, .ref 778, .builtin "ExceptionGroup.__weakref__", .none], #[]⟩
noncomputable def o505 (P : Params) : Obj := ⟨.type "super", none, .fields #[.ref 778, .ref 778, .ref 778], #[]⟩
noncomputable def o506 (P : Params) : Obj := ⟨.type "builtin_function_or_method", none, .fields #[.builtin "object.__init_subclass__", .ref 778], #[]⟩
noncomputable def o507 (P : Params) : Obj := ⟨.type "tuple", none, .seq #[.ref 778] 0, #[]⟩
noncomputable def o508 (P : Params) : Obj := ⟨.type "dict", none, .dict #[en P "__module__" 1236 (.str "heldfloods.deeds" 1160), en P "__qualname__" 1238 (.str "Boxed" 1237), en P "__firstlineno__" 1240 (.int (407) 1239), en P "__init__" 1250 (.ref 798), en P "facts" 1259 (.ref 806), en P "__static_attributes__" 1261 (.ref 807), en P "__classcell__" 1262 (.ref 786)] 7, #[]⟩
noncomputable def o509 (P : Params) : Obj := ⟨.type "cell", none, .cell (some (.ref 809)), #[]⟩
noncomputable def o510 (P : Params) : Obj := ⟨.none, none, .fields #[.int (409) 0, .int (4) 0, .ref 797, .int (415) 0, .int (4) 0, .ref 805], #[]⟩
noncomputable def o511 (P : Params) : Obj := ⟨.type "code", none, .fields #[.str "Boxed" 1231, .str "Boxed" 1232, .str "/claim/cut.py" 1233, .int (407) 0, .int (0) 0, .int (0) 0, .int (0) 0, .int (0) 0, .ref 787, .bool false, .int (181) 0, .ref 788, .none, .none, .none, .none, .int (1234) 0, .int (407) 0, .str "/claim/cut.py" 1235], #[]⟩
noncomputable def o512 (P : Params) : Obj := ⟨.type "frame", none, .plain, #[some (.ref 789), some (.ref 3), some (.ref 785), none, some (.str "heldfloods.deeds" 1160), none, some (.ref 0)]⟩
noncomputable def o513 (P : Params) : Obj := ⟨.type "tuple", none, .seq #[.ref 786] 0, #[]⟩
noncomputable def o514 (P : Params) : Obj := ⟨.type "tuple", none, .seq #[.str "__class__" 1244] 0, #[]⟩
noncomputable def o515 (P : Params) : Obj := ⟨.type "tuple", none, .seq #[.str "self" 1245, .str "box" 1246, .str "rest" 1247] 0, #[]⟩
noncomputable def o516 (P : Params) : Obj := ⟨.none, none, .func ⟨"__init__", "Boxed.__init__", (fA (iC 56 0)), (.stmts (fB (iC 56 0))), (fS (iC 56 0)), 0, [], .none, .none, .none, .none, none, .none, .none, 0⟩, #[]⟩
noncomputable def o517 (P : Params) : Obj := ⟨.type "code", none, .fields #[.str "__init__" 1241, .str "Boxed.__init__" 1242, .str "/claim/cut.py" 1243, .int (409) 0, .int (2) 0, .int (0) 0, .int (0) 0, .int (11) 0, .ref 792, .bool true, .int (181) 0, .ref 793, .none, .ref 794, .ref 795, .ref 796, .int (1248) 0, .int (409) 0, .str "/claim/cut.py" 1249], #[]⟩
noncomputable def o518 (P : Params) : Obj := ⟨.type "function", none, .func ⟨"__init__", "Boxed.__init__", (fA (iC 56 0)), (.stmts (fB (iC 56 0))), (fS (iC 56 0)), 3, [("__class__", 786)], .none, .none, .none, .str "heldfloods.deeds" 1160, none, .ref 797, .ref 791, 0⟩, #[]⟩
noncomputable def o519 (P : Params) : Obj := ⟨.type "tuple", none, .seq #[.str "__class__" 1254] 0, #[]⟩
noncomputable def o520 (P : Params) : Obj := ⟨.type "tuple", none, .seq #[.str "self" 1255, .str "rest" 1256] 0, #[]⟩
noncomputable def o521 (P : Params) : Obj := ⟨.none, none, .func ⟨"facts", "Boxed.facts", (fA (iC 56 1)), (.stmts (fB (iC 56 1))), (fS (iC 56 1)), 0, [], .none, .none, .none, .none, none, .none, .none, 0⟩, #[]⟩
noncomputable def o522 (P : Params) : Obj := ⟨.type "code", none, .fields #[.str "facts" 1251, .str "Boxed.facts" 1252, .str "/claim/cut.py" 1253, .int (415) 0, .int (1) 0, .int (0) 0, .int (0) 0, .int (3) 0, .ref 800, .bool true, .int (181) 0, .ref 801, .none, .ref 802, .ref 803, .ref 804, .int (1257) 0, .int (415) 0, .str "/claim/cut.py" 1258], #[]⟩
noncomputable def o523 (P : Params) : Obj := ⟨.type "function", none, .func ⟨"facts", "Boxed.facts", (fA (iC 56 1)), (.stmts (fB (iC 56 1))), (fS (iC 56 1)), 3, [("__class__", 786)], .none, .none, .none, .str "heldfloods.deeds" 1160, none, .ref 805, .ref 799, 0⟩, #[]⟩
noncomputable def o524 (P : Params) : Obj := ⟨.type "tuple", none, .seq #[.str "box" 1260] 0, #[]⟩
noncomputable def o525 (P : Params) : Obj := ⟨.type "dict", none, .dict #[en P "__module__" 1236 (.str "heldfloods.deeds" 1160), en P "__firstlineno__" 1240 (.int (407) 1239), en P "__init__" 1250 (.ref 798), en P "facts" 1259 (.ref 806), en P "__static_attributes__" 1261 (.ref 807), en P "__doc__" 1263 (.none)] 3, #[]⟩
noncomputable def o526 (P : Params) : Obj := ⟨.type "type", none, .cls ⟨"Boxed", [.ref 778], [.ref 809, .ref 778, .type "object"], 808, "Boxed", true, [], [.ref 952, .ref 1003, .ref 1087], false, none, false⟩, #[some (.ref 783), none, some (.str "Boxed" 1229), some (.str "Boxed" 1237), some (.builtin "object.__new__"), some (.bool true)]⟩
noncomputable def o527 (P : Params) : Obj := ⟨.type "super", none, .fields #[.ref 809, .ref 809, .ref 809], #[]⟩
noncomputable def o528 (P : Params) : Obj := ⟨.type "builtin_function_or_method", none, .fields #[.builtin "object.__init_subclass__", .ref 809], #[]⟩
noncomputable def o529 (P : Params) : Obj := ⟨.type "dict", none, .dict #[en P "__module__" 1273 (.str "heldfloods.deeds" 1160), en P "__qualname__" 1275 (.str "Pointed" 1274), en P "__firstlineno__" 1277 (.int (418) 1276), en P "__init__" 1288 (.ref 827), en P "facts" 1297 (.ref 835), en P "point" 1305 (.ref 842), en P "__static_attributes__" 1308 (.ref 843), en P "__classcell__" 1309 (.ref 815)] 8, #[]⟩
noncomputable def o530 (P : Params) : Obj := ⟨.type "cell", none, .cell (some (.ref 845)), #[]⟩
noncomputable def o531 (P : Params) : Obj := ⟨.none, none, .fields #[.int (420) 0, .int (4) 0, .ref 826, .int (425) 0, .int (4) 0, .ref 834, .int (429) 0, .int (4) 0, .ref 841], #[]⟩
noncomputable def o532 (P : Params) : Obj := ⟨.type "code", none, .fields #[.str "Pointed" 1268, .str "Pointed" 1269, .str "/claim/cut.py" 1270, .int (418) 0, .int (0) 0, .int (0) 0, .int (0) 0, .int (0) 0, .ref 816, .bool false, .int (181) 0, .ref 817, .none, .none, .none, .none, .int (1271) 0, .int (418) 0, .str "/claim/cut.py" 1272], #[]⟩
noncomputable def o533 (P : Params) : Obj := ⟨.type "frame", none, .plain, #[some (.ref 818), some (.ref 3), some (.ref 814), none, some (.str "heldfloods.deeds" 1160), none, some (.ref 0)]⟩
noncomputable def o534 (P : Params) : Obj := ⟨.type "tuple", none, .seq #[.ref 815] 0, #[]⟩
noncomputable def o535 (P : Params) : Obj := ⟨.type "tuple", none, .seq #[.str "__class__" 1281] 0, #[]⟩
noncomputable def o536 (P : Params) : Obj := ⟨.type "tuple", none, .seq #[.str "self" 1282, .str "x" 1283, .str "y" 1284, .str "rest" 1285] 0, #[]⟩
noncomputable def o537 (P : Params) : Obj := ⟨.none, none, .func ⟨"__init__", "Pointed.__init__", (fA (iC 57 0)), (.stmts (fB (iC 57 0))), (fS (iC 57 0)), 0, [], .none, .none, .none, .none, none, .none, .none, 0⟩, #[]⟩
noncomputable def o538 (P : Params) : Obj := ⟨.type "code", none, .fields #[.str "__init__" 1278, .str "Pointed.__init__" 1279, .str "/claim/cut.py" 1280, .int (420) 0, .int (3) 0, .int (0) 0, .int (0) 0, .int (11) 0, .ref 821, .bool true, .int (181) 0, .ref 822, .none, .ref 823, .ref 824, .ref 825, .int (1286) 0, .int (420) 0, .str "/claim/cut.py" 1287], #[]⟩
noncomputable def o539 (P : Params) : Obj := ⟨.type "function", none, .func ⟨"__init__", "Pointed.__init__", (fA (iC 57 0)), (.stmts (fB (iC 57 0))), (fS (iC 57 0)), 3, [("__class__", 815)], .none, .none, .none, .str "heldfloods.deeds" 1160, none, .ref 826, .ref 820, 0⟩, #[]⟩
noncomputable def o540 (P : Params) : Obj := ⟨.type "tuple", none, .seq #[.str "__class__" 1292] 0, #[]⟩
noncomputable def o541 (P : Params) : Obj := ⟨.type "tuple", none, .seq #[.str "self" 1293, .str "rest" 1294] 0, #[]⟩
noncomputable def o542 (P : Params) : Obj := ⟨.none, none, .func ⟨"facts", "Pointed.facts", (fA (iC 57 1)), (.stmts (fB (iC 57 1))), (fS (iC 56 1)), 0, [], .none, .none, .none, .none, none, .none, .none, 0⟩, #[]⟩
noncomputable def o543 (P : Params) : Obj := ⟨.type "code", none, .fields #[.str "facts" 1289, .str "Pointed.facts" 1290, .str "/claim/cut.py" 1291, .int (425) 0, .int (1) 0, .int (0) 0, .int (0) 0, .int (3) 0, .ref 829, .bool true, .int (181) 0, .ref 830, .none, .ref 831, .ref 832, .ref 833, .int (1295) 0, .int (425) 0, .str "/claim/cut.py" 1296], #[]⟩
noncomputable def o544 (P : Params) : Obj := ⟨.type "function", none, .func ⟨"facts", "Pointed.facts", (fA (iC 57 1)), (.stmts (fB (iC 57 1))), (fS (iC 56 1)), 3, [("__class__", 815)], .none, .none, .none, .str "heldfloods.deeds" 1160, none, .ref 834, .ref 828, 0⟩, #[]⟩
noncomputable def o545 (P : Params) : Obj := ⟨.type "tuple", none, .seq #[.str "self" 1301, .str "canvas" 1302] 0, #[]⟩
noncomputable def o546 (P : Params) : Obj := ⟨.none, none, .func ⟨"point", "Pointed.point", (fA (iC 57 2)), (.stmts (fB (iC 57 2))), (fS (iC 55 4)), 0, [], .none, .none, .none, .none, none, .none, .none, 0⟩, #[]⟩
noncomputable def o547 (P : Params) : Obj := ⟨.type "code", none, .fields #[.str "point" 1298, .str "Pointed.point" 1299, .str "/claim/cut.py" 1300, .int (429) 0, .int (2) 0, .int (0) 0, .int (0) 0, .int (3) 0, .ref 836, .bool true, .int (181) 0, .ref 837, .none, .ref 838, .ref 839, .ref 840, .int (1303) 0, .int (429) 0, .str "/claim/cut.py" 1304], #[]⟩
noncomputable def o548 (P : Params) : Obj := ⟨.type "function", none, .func ⟨"point", "Pointed.point", (fA (iC 57 2)), (.stmts (fB (iC 57 2))), (fS (iC 55 4)), 3, [], .none, .none, .none, .str "heldfloods.deeds" 1160, none, .ref 841, .none, 0⟩, #[]⟩
noncomputable def o549 (P : Params) : Obj := ⟨.type "tuple", none, .seq #[.str "x" 1306, .str "y" 1307] 0, #[]⟩
noncomputable def o550 (P : Params) : Obj := ⟨.type "dict", none, .dict #[en P "__module__" 1273 (.str "heldfloods.deeds" 1160), en P "__firstlineno__" 1277 (.int (418) 1276), en P "__init__" 1288 (.ref 827), en P "facts" 1297 (.ref 835), en P "point" 1305 (.ref 842), en P "__static_attributes__" 1308 (.ref 843), en P "__doc__" 1310 (.none)] 3, #[]⟩
noncomputable def o551 (P : Params) : Obj := ⟨.type "type", none, .cls ⟨"Pointed", [.ref 778], [.ref 845, .ref 778, .type "object"], 844, "Pointed", true, [], [.ref 1045, .ref 1087, .ref 1348], false, none, false⟩, #[some (.ref 812), none, some (.str "Pointed" 1266), some (.str "Pointed" 1274), some (.builtin "object.__new__"), some (.bool true)]⟩
noncomputable def o552 (P : Params) : Obj := ⟨.type "super", none, .fields #[.ref 845, .ref 845, .ref 845], #[]⟩
noncomputable def o553 (P : Params) : Obj := ⟨.type "builtin_function_or_method", none, .fields #[.builtin "object.__init_subclass__", .ref 845], #[]⟩
noncomputable def o554 (P : Params) : Obj := ⟨.type "dict", none, .dict #[en P "__module__" 1320 (.str "heldfloods.deeds" 1160), en P "__qualname__" 1322 (.str "Coloured" 1321), en P "__firstlineno__" 1324 (.int (431) 1323), en P "__init__" 1334 (.ref 863), en P "facts" 1343 (.ref 871), en P "__static_attributes__" 1345 (.ref 872), en P "__classcell__" 1346 (.ref 851)] 7, #[]⟩
noncomputable def o555 (P : Params) : Obj := ⟨.type "cell", none, .cell (some (.ref 874)), #[]⟩
noncomputable def o556 (P : Params) : Obj := ⟨.none, none, .fields #[.int (433) 0, .int (4) 0, .ref 862, .int (438) 0, .int (4) 0, .ref 870], #[]⟩
noncomputable def o557 (P : Params) : Obj := ⟨.type "code", none, .fields #[.str "Coloured" 1315, .str "Coloured" 1316, .str "/claim/cut.py" 1317, .int (431) 0, .int (0) 0, .int (0) 0, .int (0) 0, .int (0) 0, .ref 852, .bool false, .int (181) 0, .ref 853, .none, .none, .none, .none, .int (1318) 0, .int (431) 0, .str "/claim/cut.py" 1319], #[]⟩
noncomputable def o558 (P : Params) : Obj := ⟨.type "frame", none, .plain, #[some (.ref 854), some (.ref 3), some (.ref 850), none, some (.str "heldfloods.deeds" 1160), none, some (.ref 0)]⟩
noncomputable def o559 (P : Params) : Obj := ⟨.type "tuple", none, .seq #[.ref 851] 0, #[]⟩
noncomputable def o560 (P : Params) : Obj := ⟨.type "tuple", none, .seq #[.str "__class__" 1328] 0, #[]⟩
noncomputable def o561 (P : Params) : Obj := ⟨.type "tuple", none, .seq #[.str "self" 1329, .str "colour" 1330, .str "rest" 1331] 0, #[]⟩
noncomputable def o562 (P : Params) : Obj := ⟨.none, none, .func ⟨"__init__", "Coloured.__init__", (fA (iC 58 0)), (.stmts (fB (iC 58 0))), (fS (iC 58 0)), 0, [], .none, .none, .none, .none, none, .none, .none, 0⟩, #[]⟩
noncomputable def o563 (P : Params) : Obj := ⟨.type "code", none, .fields #[.str "__init__" 1325, .str "Coloured.__init__" 1326, .str "/claim/cut.py" 1327, .int (433) 0, .int (2) 0, .int (0) 0, .int (0) 0, .int (11) 0, .ref 857, .bool true, .int (181) 0, .ref 858, .none, .ref 859, .ref 860, .ref 861, .int (1332) 0, .int (433) 0, .str "/claim/cut.py" 1333], #[]⟩
noncomputable def o564 (P : Params) : Obj := ⟨.type "function", none, .func ⟨"__init__", "Coloured.__init__", (fA (iC 58 0)), (.stmts (fB (iC 58 0))), (fS (iC 58 0)), 3, [("__class__", 851)], .none, .none, .none, .str "heldfloods.deeds" 1160, none, .ref 862, .ref 856, 0⟩, #[]⟩
noncomputable def o565 (P : Params) : Obj := ⟨.type "tuple", none, .seq #[.str "__class__" 1338] 0, #[]⟩
noncomputable def o566 (P : Params) : Obj := ⟨.type "tuple", none, .seq #[.str "self" 1339, .str "rest" 1340] 0, #[]⟩
noncomputable def o567 (P : Params) : Obj := ⟨.none, none, .func ⟨"facts", "Coloured.facts", (fA (iC 58 1)), (.stmts (fB (iC 58 1))), (fS (iC 56 1)), 0, [], .none, .none, .none, .none, none, .none, .none, 0⟩, #[]⟩
noncomputable def o568 (P : Params) : Obj := ⟨.type "code", none, .fields #[.str "facts" 1335, .str "Coloured.facts" 1336, .str "/claim/cut.py" 1337, .int (438) 0, .int (1) 0, .int (0) 0, .int (0) 0, .int (3) 0, .ref 865, .bool true, .int (181) 0, .ref 866, .none, .ref 867, .ref 868, .ref 869, .int (1341) 0, .int (438) 0, .str "/claim/cut.py" 1342], #[]⟩
noncomputable def o569 (P : Params) : Obj := ⟨.type "function", none, .func ⟨"facts", "Coloured.facts", (fA (iC 58 1)), (.stmts (fB (iC 58 1))), (fS (iC 56 1)), 3, [("__class__", 851)], .none, .none, .none, .str "heldfloods.deeds" 1160, none, .ref 870, .ref 864, 0⟩, #[]⟩
noncomputable def o570 (P : Params) : Obj := ⟨.type "tuple", none, .seq #[.str "colour" 1344] 0, #[]⟩
noncomputable def o571 (P : Params) : Obj := ⟨.type "dict", none, .dict #[en P "__module__" 1320 (.str "heldfloods.deeds" 1160), en P "__firstlineno__" 1324 (.int (431) 1323), en P "__init__" 1334 (.ref 863), en P "facts" 1343 (.ref 871), en P "__static_attributes__" 1345 (.ref 872), en P "__doc__" 1347 (.none)] 3, #[]⟩
noncomputable def o572 (P : Params) : Obj := ⟨.type "type", none, .cls ⟨"Coloured", [.ref 778], [.ref 874, .ref 778, .type "object"], 873, "Coloured", true, [], [.ref 952, .ref 1003, .ref 1045, .ref 1237, .ref 1348], false, none, false⟩, #[some (.ref 848), none, some (.str "Coloured" 1313), some (.str "Coloured" 1321), some (.builtin "object.__new__"), some (.bool true)]⟩
noncomputable def o573 (P : Params) : Obj := ⟨.type "super", none, .fields #[.ref 874, .ref 874, .ref 874], #[]⟩
noncomputable def o574 (P : Params) : Obj := ⟨.type "builtin_function_or_method", none, .fields #[.builtin "object.__init_subclass__", .ref 874], #[]⟩
noncomputable def o575 (P : Params) : Obj := ⟨.type "dict", none, .dict #[en P "__module__" 1357 (.str "heldfloods.deeds" 1160), en P "__qualname__" 1359 (.str "Blocked" 1358), en P "__firstlineno__" 1361 (.int (441) 1360), en P "__init__" 1371 (.ref 892), en P "facts" 1380 (.ref 900), en P "each" 1389 (.ref 907), en P "__static_attributes__" 1391 (.ref 908), en P "__classcell__" 1392 (.ref 880)] 8, #[]⟩
noncomputable def o576 (P : Params) : Obj := ⟨.type "cell", none, .cell (some (.ref 910)), #[]⟩
noncomputable def o577 (P : Params) : Obj := ⟨.none, none, .fields #[.int (443) 0, .int (4) 0, .ref 891, .int (448) 0, .int (4) 0, .ref 899, .int (452) 0, .int (4) 0, .ref 906], #[]⟩
noncomputable def o578 (P : Params) : Obj := ⟨.type "code", none, .fields #[.str "Blocked" 1352, .str "Blocked" 1353, .str "/claim/cut.py" 1354, .int (441) 0, .int (0) 0, .int (0) 0, .int (0) 0, .int (0) 0, .ref 881, .bool false, .int (181) 0, .ref 882, .none, .none, .none, .none, .int (1355) 0, .int (441) 0, .str "/claim/cut.py" 1356], #[]⟩
noncomputable def o579 (P : Params) : Obj := ⟨.type "frame", none, .plain, #[some (.ref 883), some (.ref 3), some (.ref 879), none, some (.str "heldfloods.deeds" 1160), none, some (.ref 0)]⟩
noncomputable def o580 (P : Params) : Obj := ⟨.type "tuple", none, .seq #[.ref 880] 0, #[]⟩
noncomputable def o581 (P : Params) : Obj := ⟨.type "tuple", none, .seq #[.str "__class__" 1365] 0, #[]⟩
noncomputable def o582 (P : Params) : Obj := ⟨.type "tuple", none, .seq #[.str "self" 1366, .str "deeds" 1367, .str "rest" 1368] 0, #[]⟩
noncomputable def o583 (P : Params) : Obj := ⟨.none, none, .func ⟨"__init__", "Blocked.__init__", (fA (iC 59 0)), (.stmts (fB (iC 59 0))), (fS (iC 59 0)), 0, [], .none, .none, .none, .none, none, .none, .none, 0⟩, #[]⟩
noncomputable def o584 (P : Params) : Obj := ⟨.type "code", none, .fields #[.str "__init__" 1362, .str "Blocked.__init__" 1363, .str "/claim/cut.py" 1364, .int (443) 0, .int (2) 0, .int (0) 0, .int (0) 0, .int (11) 0, .ref 886, .bool true, .int (181) 0, .ref 887, .none, .ref 888, .ref 889, .ref 890, .int (1369) 0, .int (443) 0, .str "/claim/cut.py" 1370], #[]⟩
noncomputable def o585 (P : Params) : Obj := ⟨.type "function", none, .func ⟨"__init__", "Blocked.__init__", (fA (iC 59 0)), (.stmts (fB (iC 59 0))), (fS (iC 59 0)), 3, [("__class__", 880)], .none, .none, .none, .str "heldfloods.deeds" 1160, none, .ref 891, .ref 885, 0⟩, #[]⟩
noncomputable def o586 (P : Params) : Obj := ⟨.type "tuple", none, .seq #[.str "__class__" 1375] 0, #[]⟩
noncomputable def o587 (P : Params) : Obj := ⟨.type "tuple", none, .seq #[.str "self" 1376, .str "rest" 1377] 0, #[]⟩
noncomputable def o588 (P : Params) : Obj := ⟨.none, none, .func ⟨"facts", "Blocked.facts", (fA (iC 59 1)), (.stmts (fB (iC 59 1))), (fS (iC 59 1)), 0, [], .none, .none, .none, .none, none, .none, .none, 0⟩, #[]⟩
noncomputable def o589 (P : Params) : Obj := ⟨.type "code", none, .fields #[.str "facts" 1372, .str "Blocked.facts" 1373, .str "/claim/cut.py" 1374, .int (448) 0, .int (1) 0, .int (0) 0, .int (0) 0, .int (3) 0, .ref 894, .bool true, .int (181) 0, .ref 895, .none, .ref 896, .ref 897, .ref 898, .int (1378) 0, .int (448) 0, .str "/claim/cut.py" 1379], #[]⟩
noncomputable def o590 (P : Params) : Obj := ⟨.type "function", none, .func ⟨"facts", "Blocked.facts", (fA (iC 59 1)), (.stmts (fB (iC 59 1))), (fS (iC 59 1)), 3, [("__class__", 880)], .none, .none, .none, .str "heldfloods.deeds" 1160, none, .ref 899, .ref 893, 0⟩, #[]⟩
noncomputable def o591 (P : Params) : Obj := ⟨.type "tuple", none, .seq #[.str "self" 1384, .str "deed" 1385, .str "one" 1386] 0, #[]⟩
noncomputable def o592 (P : Params) : Obj := ⟨.none, none, .func ⟨"each", "Blocked.each", (fA (iC 59 2)), (.stmts (fB (iC 59 2))), (fS (iC 59 2)), 0, [], .none, .none, .none, .none, none, .none, .none, 0⟩, #[]⟩
noncomputable def o593 (P : Params) : Obj := ⟨.type "code", none, .fields #[.str "each" 1381, .str "Blocked.each" 1382, .str "/claim/cut.py" 1383, .int (452) 0, .int (1) 0, .int (0) 0, .int (0) 0, .int (35) 0, .ref 901, .bool true, .int (181) 0, .ref 902, .none, .ref 903, .ref 904, .ref 905, .int (1387) 0, .int (452) 0, .str "/claim/cut.py" 1388], #[]⟩
noncomputable def o594 (P : Params) : Obj := ⟨.type "function", none, .func ⟨"each", "Blocked.each", (fA (iC 59 2)), (.stmts (fB (iC 59 2))), (fS (iC 59 2)), 3, [], .none, .none, .none, .str "heldfloods.deeds" 1160, none, .ref 906, .none, 0⟩, #[]⟩
noncomputable def o595 (P : Params) : Obj := ⟨.type "tuple", none, .seq #[.str "deeds" 1390] 0, #[]⟩
noncomputable def o596 (P : Params) : Obj := ⟨.type "dict", none, .dict #[en P "__module__" 1357 (.str "heldfloods.deeds" 1160), en P "__firstlineno__" 1361 (.int (441) 1360), en P "__init__" 1371 (.ref 892), en P "facts" 1380 (.ref 900), en P "each" 1389 (.ref 907), en P "__static_attributes__" 1391 (.ref 908), en P "__doc__" 1393 (.none)] 3, #[]⟩
noncomputable def o597 (P : Params) : Obj := ⟨.type "type", none, .cls ⟨"Blocked", [.ref 778], [.ref 910, .ref 778, .type "object"], 909, "Blocked", true, [], [.ref 1290, .ref 1348], false, none, false⟩, #[some (.ref 877), none, some (.str "Blocked" 1350), some (.str "Blocked" 1358), some (.builtin "object.__new__"), some (.bool true)]⟩
noncomputable def o598 (P : Params) : Obj := ⟨.type "super", none, .fields #[.ref 910, .ref 910, .ref 910], #[]⟩
noncomputable def o599 (P : Params) : Obj := ⟨.type "builtin_function_or_method", none, .fields #[.builtin "object.__init_subclass__", .ref 910], #[]⟩
noncomputable def o600 (P : Params) : Obj := ⟨.type "tuple", none, .seq #[.ref 809, .ref 874] 0, #[]⟩
noncomputable def o601 (P : Params) : Obj := ⟨.type "dict", none, .dict #[en P "__module__" 1403 (.str "heldfloods.deeds" 1160), en P "__qualname__" 1405 (.str "Fill" 1404), en P "__firstlineno__" 1407 (.int (457) 1406), en P "KIND" 1409 (.str "fill" 1408), en P "__init__" 1419 (.ref 928), en P "on" 1431 (.ref 935), en P "__invert__" 1438 (.ref 942), en P "__str__" 1445 (.ref 949), en P "__static_attributes__" 1446 (.ref 950), en P "__classcell__" 1447 (.ref 916)] 10, #[]⟩
noncomputable def o602 (P : Params) : Obj := ⟨.type "cell", none, .cell (some (.ref 952)), #[]⟩
noncomputable def o603 (P : Params) : Obj := ⟨.none, none, .fields #[.int (460) 0, .int (4) 0, .ref 927, .int (463) 0, .int (4) 0, .ref 934, .int (467) 0, .int (4) 0, .ref 941, .int (470) 0, .int (4) 0, .ref 948], #[]⟩
noncomputable def o604 (P : Params) : Obj := ⟨.type "code", none, .fields #[.str "Fill" 1398, .str "Fill" 1399, .str "/claim/cut.py" 1400, .int (457) 0, .int (0) 0, .int (0) 0, .int (0) 0, .int (0) 0, .ref 917, .bool false, .int (181) 0, .ref 918, .none, .none, .none, .none, .int (1401) 0, .int (457) 0, .str "/claim/cut.py" 1402], #[]⟩
noncomputable def o605 (P : Params) : Obj := ⟨.type "frame", none, .plain, #[some (.ref 919), some (.ref 3), some (.ref 915), none, some (.str "heldfloods.deeds" 1160), none, some (.ref 0)]⟩
noncomputable def o606 (P : Params) : Obj := ⟨.type "tuple", none, .seq #[.ref 916] 0, #[]⟩
noncomputable def o607 (P : Params) : Obj := ⟨.type "tuple", none, .seq #[.str "__class__" 1413] 0, #[]⟩
noncomputable def o608 (P : Params) : Obj := ⟨.type "tuple", none, .seq #[.str "self" 1414, .str "box" 1415, .str "colour" 1416] 0, #[]⟩
noncomputable def o609 (P : Params) : Obj := ⟨.none, none, .func ⟨"__init__", "Fill.__init__", (fA (iC 60 1)), (.stmts (fB (iC 60 1))), (fS (iC 60 1)), 0, [], .none, .none, .none, .none, none, .none, .none, 0⟩, #[]⟩
noncomputable def o610 (P : Params) : Obj := ⟨.type "code", none, .fields #[.str "__init__" 1410, .str "Fill.__init__" 1411, .str "/claim/cut.py" 1412, .int (460) 0, .int (3) 0, .int (0) 0, .int (0) 0, .int (3) 0, .ref 922, .bool true, .int (181) 0, .ref 923, .none, .ref 924, .ref 925, .ref 926, .int (1417) 0, .int (460) 0, .str "/claim/cut.py" 1418], #[]⟩
noncomputable def o611 (P : Params) : Obj := ⟨.type "function", none, .func ⟨"__init__", "Fill.__init__", (fA (iC 60 1)), (.stmts (fB (iC 60 1))), (fS (iC 60 1)), 3, [("__class__", 916)], .none, .none, .none, .str "heldfloods.deeds" 1160, none, .ref 927, .ref 921, 0⟩, #[]⟩
noncomputable def o612 (P : Params) : Obj := ⟨.type "tuple", none, .seq #[.str "self" 1423, .str "canvas" 1424, .str "x0" 1425, .str "x1" 1426, .str "y0" 1427, .str "y1" 1428] 0, #[]⟩
noncomputable def o613 (P : Params) : Obj := ⟨.none, none, .func ⟨"on", "Fill.on", (fA (iC 60 2)), (.stmts (fB (iC 60 2))), (fS (iC 60 2)), 0, [], .none, .none, .none, .none, none, .none, .none, 0⟩, #[]⟩
noncomputable def o614 (P : Params) : Obj := ⟨.type "code", none, .fields #[.str "on" 1420, .str "Fill.on" 1421, .str "/claim/cut.py" 1422, .int (463) 0, .int (2) 0, .int (0) 0, .int (0) 0, .int (3) 0, .ref 929, .bool true, .int (181) 0, .ref 930, .none, .ref 931, .ref 932, .ref 933, .int (1429) 0, .int (463) 0, .str "/claim/cut.py" 1430], #[]⟩
noncomputable def o615 (P : Params) : Obj := ⟨.type "function", none, .func ⟨"on", "Fill.on", (fA (iC 60 2)), (.stmts (fB (iC 60 2))), (fS (iC 60 2)), 3, [], .none, .none, .none, .str "heldfloods.deeds" 1160, none, .ref 934, .none, 0⟩, #[]⟩
noncomputable def o616 (P : Params) : Obj := ⟨.type "tuple", none, .seq #[.str "self" 1435] 0, #[]⟩
noncomputable def o617 (P : Params) : Obj := ⟨.none, none, .func ⟨"__invert__", "Fill.__invert__", (fA (iC 60 3)), (.stmts (fB (iC 60 3))), (fS (iC 60 3)), 0, [], .none, .none, .none, .none, none, .none, .none, 0⟩, #[]⟩
noncomputable def o618 (P : Params) : Obj := ⟨.type "code", none, .fields #[.str "__invert__" 1432, .str "Fill.__invert__" 1433, .str "/claim/cut.py" 1434, .int (467) 0, .int (1) 0, .int (0) 0, .int (0) 0, .int (3) 0, .ref 936, .bool true, .int (181) 0, .ref 937, .none, .ref 938, .ref 939, .ref 940, .int (1436) 0, .int (467) 0, .str "/claim/cut.py" 1437], #[]⟩
noncomputable def o619 (P : Params) : Obj := ⟨.type "function", none, .func ⟨"__invert__", "Fill.__invert__", (fA (iC 60 3)), (.stmts (fB (iC 60 3))), (fS (iC 60 3)), 3, [], .none, .none, .none, .str "heldfloods.deeds" 1160, none, .ref 941, .none, 0⟩, #[]⟩
noncomputable def o620 (P : Params) : Obj := ⟨.type "tuple", none, .seq #[.str "self" 1442] 0, #[]⟩
noncomputable def o621 (P : Params) : Obj := ⟨.none, none, .func ⟨"__str__", "Fill.__str__", (fA (iC 60 4)), (.stmts (fB (iC 60 4))), (fS (iC 18 13)), 0, [], .none, .none, .none, .none, none, .none, .none, 0⟩, #[]⟩
noncomputable def o622 (P : Params) : Obj := ⟨.type "code", none, .fields #[.str "__str__" 1439, .str "Fill.__str__" 1440, .str "/claim/cut.py" 1441, .int (470) 0, .int (1) 0, .int (0) 0, .int (0) 0, .int (3) 0, .ref 943, .bool true, .int (181) 0, .ref 944, .none, .ref 945, .ref 946, .ref 947, .int (1443) 0, .int (470) 0, .str "/claim/cut.py" 1444], #[]⟩
noncomputable def o623 (P : Params) : Obj := ⟨.type "function", none, .func ⟨"__str__", "Fill.__str__", (fA (iC 60 4)), (.stmts (fB (iC 60 4))), (fS (iC 18 13)), 3, [], .none, .none, .none, .str "heldfloods.deeds" 1160, none, .ref 948, .none, 0⟩, #[]⟩
noncomputable def o624 (P : Params) : Obj := ⟨.type "dict", none, .dict #[en P "__module__" 1403 (.str "heldfloods.deeds" 1160), en P "__firstlineno__" 1407 (.int (457) 1406), en P "KIND" 1409 (.str "fill" 1408), en P "__init__" 1419 (.ref 928), en P "on" 1431 (.ref 935), en P "__invert__" 1438 (.ref 942), en P "__str__" 1445 (.ref 949), en P "__static_attributes__" 1446 (.ref 950), en P "__doc__" 1448 (.none)] 3, #[]⟩
noncomputable def o625 (P : Params) : Obj := ⟨.type "type", none, .cls ⟨"Fill", [.ref 809, .ref 874], [.ref 952, .ref 809, .ref 874, .ref 778, .type "object"], 951, "Fill", true, [], [], false, none, false⟩, #[some (.ref 913), none, some (.str "Fill" 1396), some (.str "Fill" 1404), some (.builtin "object.__new__"), some (.bool true)]⟩
noncomputable def o626 (P : Params) : Obj := ⟨.type "super", none, .fields #[.ref 952, .ref 952, .ref 952], #[]⟩
noncomputable def o627 (P : Params) : Obj := ⟨.type "builtin_function_or_method", none, .fields #[.builtin "object.__init_subclass__", .ref 952], #[]⟩
noncomputable def o628 (P : Params) : Obj := ⟨.type "dict", none, .dict #[en P "__module__" 1458 (.str "heldfloods.deeds" 1160), en P "__qualname__" 1460 (.str "Frame" 1459), en P "__firstlineno__" 1462 (.int (472) 1461), en P "KIND" 1464 (.str "frame" 1463), en P "__init__" 1476 (.ref 971), en P "facts" 1485 (.ref 979), en P "on" 1497 (.ref 986), en P "__invert__" 1504 (.ref 993), en P "__str__" 1511 (.ref 1000), en P "__static_attributes__" 1513 (.ref 1001), en P "__classcell__" 1514 (.ref 958)] 11, #[]⟩
noncomputable def o629 (P : Params) : Obj := ⟨.type "cell", none, .cell (some (.ref 1003)), #[]⟩
noncomputable def o630 (P : Params) : Obj := ⟨.none, none, .fields #[.int (475) 0, .int (4) 0, .ref 970, .int (481) 0, .int (4) 0, .ref 978, .int (485) 0, .int (4) 0, .ref 985, .int (492) 0, .int (4) 0, .ref 992, .int (495) 0, .int (4) 0, .ref 999], #[]⟩
noncomputable def o631 (P : Params) : Obj := ⟨.type "code", none, .fields #[.str "Frame" 1453, .str "Frame" 1454, .str "/claim/cut.py" 1455, .int (472) 0, .int (0) 0, .int (0) 0, .int (0) 0, .int (0) 0, .ref 959, .bool false, .int (181) 0, .ref 960, .none, .none, .none, .none, .int (1456) 0, .int (472) 0, .str "/claim/cut.py" 1457], #[]⟩
noncomputable def o632 (P : Params) : Obj := ⟨.type "frame", none, .plain, #[some (.ref 961), some (.ref 3), some (.ref 957), none, some (.str "heldfloods.deeds" 1160), none, some (.ref 0)]⟩
noncomputable def o633 (P : Params) : Obj := ⟨.type "tuple", none, .seq #[.int (1) 1465] 0, #[]⟩
noncomputable def o634 (P : Params) : Obj := ⟨.type "tuple", none, .seq #[.ref 958] 0, #[]⟩
noncomputable def o635 (P : Params) : Obj := ⟨.type "tuple", none, .seq #[.str "__class__" 1469] 0, #[]⟩
noncomputable def o636 (P : Params) : Obj := ⟨.type "tuple", none, .seq #[.str "self" 1470, .str "box" 1471, .str "colour" 1472, .str "thick" 1473] 0, #[]⟩
noncomputable def o637 (P : Params) : Obj := ⟨.none, none, .func ⟨"__init__", "Frame.__init__", (fA (iC 61 1)), (.stmts (fB (iC 61 1))), (fS (iC 61 1)), 0, [], .none, .none, .none, .none, none, .none, .none, 0⟩, #[]⟩
noncomputable def o638 (P : Params) : Obj := ⟨.type "code", none, .fields #[.str "__init__" 1466, .str "Frame.__init__" 1467, .str "/claim/cut.py" 1468, .int (475) 0, .int (4) 0, .int (0) 0, .int (0) 0, .int (3) 0, .ref 965, .bool true, .int (181) 0, .ref 966, .none, .ref 967, .ref 968, .ref 969, .int (1474) 0, .int (475) 0, .str "/claim/cut.py" 1475], #[]⟩
noncomputable def o639 (P : Params) : Obj := ⟨.type "function", none, .func ⟨"__init__", "Frame.__init__", (fA (iC 61 1)), (.stmts (fB (iC 61 1))), (fS (iC 61 1)), 3, [("__class__", 958)], .ref 963, .none, .none, .str "heldfloods.deeds" 1160, none, .ref 970, .ref 964, 0⟩, #[]⟩
noncomputable def o640 (P : Params) : Obj := ⟨.type "tuple", none, .seq #[.str "__class__" 1480] 0, #[]⟩
noncomputable def o641 (P : Params) : Obj := ⟨.type "tuple", none, .seq #[.str "self" 1481, .str "rest" 1482] 0, #[]⟩
noncomputable def o642 (P : Params) : Obj := ⟨.none, none, .func ⟨"facts", "Frame.facts", (fA (iC 61 2)), (.stmts (fB (iC 61 2))), (fS (iC 56 1)), 0, [], .none, .none, .none, .none, none, .none, .none, 0⟩, #[]⟩
noncomputable def o643 (P : Params) : Obj := ⟨.type "code", none, .fields #[.str "facts" 1477, .str "Frame.facts" 1478, .str "/claim/cut.py" 1479, .int (481) 0, .int (1) 0, .int (0) 0, .int (0) 0, .int (3) 0, .ref 973, .bool true, .int (181) 0, .ref 974, .none, .ref 975, .ref 976, .ref 977, .int (1483) 0, .int (481) 0, .str "/claim/cut.py" 1484], #[]⟩
noncomputable def o644 (P : Params) : Obj := ⟨.type "function", none, .func ⟨"facts", "Frame.facts", (fA (iC 61 2)), (.stmts (fB (iC 61 2))), (fS (iC 56 1)), 3, [("__class__", 958)], .none, .none, .none, .str "heldfloods.deeds" 1160, none, .ref 978, .ref 972, 0⟩, #[]⟩
noncomputable def o645 (P : Params) : Obj := ⟨.type "tuple", none, .seq #[.str "self" 1489, .str "canvas" 1490, .str "numbers" 1491, .str "spots" 1492, .str "x" 1493, .str "y" 1494] 0, #[]⟩
noncomputable def o646 (P : Params) : Obj := ⟨.none, none, .func ⟨"on", "Frame.on", (fA (iC 61 3)), (.stmts (fB (iC 61 3))), (fS (iC 61 3)), 0, [], .none, .none, .none, .none, none, .none, .none, 0⟩, #[]⟩
noncomputable def o647 (P : Params) : Obj := ⟨.type "code", none, .fields #[.str "on" 1486, .str "Frame.on" 1487, .str "/claim/cut.py" 1488, .int (485) 0, .int (2) 0, .int (0) 0, .int (0) 0, .int (3) 0, .ref 980, .bool true, .int (181) 0, .ref 981, .none, .ref 982, .ref 983, .ref 984, .int (1495) 0, .int (485) 0, .str "/claim/cut.py" 1496], #[]⟩
noncomputable def o648 (P : Params) : Obj := ⟨.type "function", none, .func ⟨"on", "Frame.on", (fA (iC 61 3)), (.stmts (fB (iC 61 3))), (fS (iC 61 3)), 3, [], .none, .none, .none, .str "heldfloods.deeds" 1160, none, .ref 985, .none, 0⟩, #[]⟩
noncomputable def o649 (P : Params) : Obj := ⟨.type "tuple", none, .seq #[.str "self" 1501] 0, #[]⟩
noncomputable def o650 (P : Params) : Obj := ⟨.none, none, .func ⟨"__invert__", "Frame.__invert__", (fA (iC 61 4)), (.stmts (fB (iC 61 4))), (fS (iC 61 4)), 0, [], .none, .none, .none, .none, none, .none, .none, 0⟩, #[]⟩
noncomputable def o651 (P : Params) : Obj := ⟨.type "code", none, .fields #[.str "__invert__" 1498, .str "Frame.__invert__" 1499, .str "/claim/cut.py" 1500, .int (492) 0, .int (1) 0, .int (0) 0, .int (0) 0, .int (3) 0, .ref 987, .bool true, .int (181) 0, .ref 988, .none, .ref 989, .ref 990, .ref 991, .int (1502) 0, .int (492) 0, .str "/claim/cut.py" 1503], #[]⟩
noncomputable def o652 (P : Params) : Obj := ⟨.type "function", none, .func ⟨"__invert__", "Frame.__invert__", (fA (iC 61 4)), (.stmts (fB (iC 61 4))), (fS (iC 61 4)), 3, [], .none, .none, .none, .str "heldfloods.deeds" 1160, none, .ref 992, .none, 0⟩, #[]⟩
noncomputable def o653 (P : Params) : Obj := ⟨.type "tuple", none, .seq #[.str "self" 1508] 0, #[]⟩
noncomputable def o654 (P : Params) : Obj := ⟨.none, none, .func ⟨"__str__", "Frame.__str__", (fA (iC 61 5)), (.stmts (fB (iC 61 5))), (fS (iC 18 13)), 0, [], .none, .none, .none, .none, none, .none, .none, 0⟩, #[]⟩
noncomputable def o655 (P : Params) : Obj := ⟨.type "code", none, .fields #[.str "__str__" 1505, .str "Frame.__str__" 1506, .str "/claim/cut.py" 1507, .int (495) 0, .int (1) 0, .int (0) 0, .int (0) 0, .int (3) 0, .ref 994, .bool true, .int (181) 0, .ref 995, .none, .ref 996, .ref 997, .ref 998, .int (1509) 0, .int (495) 0, .str "/claim/cut.py" 1510], #[]⟩
noncomputable def o656 (P : Params) : Obj := ⟨.type "function", none, .func ⟨"__str__", "Frame.__str__", (fA (iC 61 5)), (.stmts (fB (iC 61 5))), (fS (iC 18 13)), 3, [], .none, .none, .none, .str "heldfloods.deeds" 1160, none, .ref 999, .none, 0⟩, #[]⟩
noncomputable def o657 (P : Params) : Obj := ⟨.type "tuple", none, .seq #[.str "thick" 1512] 0, #[]⟩
noncomputable def o658 (P : Params) : Obj := ⟨.type "dict", none, .dict #[en P "__module__" 1458 (.str "heldfloods.deeds" 1160), en P "__firstlineno__" 1462 (.int (472) 1461), en P "KIND" 1464 (.str "frame" 1463), en P "__init__" 1476 (.ref 971), en P "facts" 1485 (.ref 979), en P "on" 1497 (.ref 986), en P "__invert__" 1504 (.ref 993), en P "__str__" 1511 (.ref 1000), en P "__static_attributes__" 1513 (.ref 1001), en P "__doc__" 1515 (.none)] 3, #[]⟩
noncomputable def o659 (P : Params) : Obj := ⟨.type "type", none, .cls ⟨"Frame", [.ref 809, .ref 874], [.ref 1003, .ref 809, .ref 874, .ref 778, .type "object"], 1002, "Frame", true, [], [], false, none, false⟩, #[some (.ref 955), none, some (.str "Frame" 1451), some (.str "Frame" 1459), some (.builtin "object.__new__"), some (.bool true)]⟩
noncomputable def o660 (P : Params) : Obj := ⟨.type "super", none, .fields #[.ref 1003, .ref 1003, .ref 1003], #[]⟩
noncomputable def o661 (P : Params) : Obj := ⟨.type "builtin_function_or_method", none, .fields #[.builtin "object.__init_subclass__", .ref 1003], #[]⟩
noncomputable def o662 (P : Params) : Obj := ⟨.type "tuple", none, .seq #[.ref 845, .ref 874] 0, #[]⟩
noncomputable def o663 (P : Params) : Obj := ⟨.type "dict", none, .dict #[en P "__module__" 1525 (.str "heldfloods.deeds" 1160), en P "__qualname__" 1527 (.str "Flood" 1526), en P "__firstlineno__" 1529 (.int (497) 1528), en P "KIND" 1531 (.str "flood" 1530), en P "__init__" 1542 (.ref 1021), en P "on" 1552 (.ref 1028), en P "__invert__" 1559 (.ref 1035), en P "__str__" 1566 (.ref 1042), en P "__static_attributes__" 1567 (.ref 1043), en P "__classcell__" 1568 (.ref 1009)] 10, #[]⟩
noncomputable def o664 (P : Params) : Obj := ⟨.type "cell", none, .cell (some (.ref 1045)), #[]⟩
noncomputable def o665 (P : Params) : Obj := ⟨.none, none, .fields #[.int (500) 0, .int (4) 0, .ref 1020, .int (503) 0, .int (4) 0, .ref 1027, .int (508) 0, .int (4) 0, .ref 1034, .int (511) 0, .int (4) 0, .ref 1041], #[]⟩
noncomputable def o666 (P : Params) : Obj := ⟨.type "code", none, .fields #[.str "Flood" 1520, .str "Flood" 1521, .str "/claim/cut.py" 1522, .int (497) 0, .int (0) 0, .int (0) 0, .int (0) 0, .int (0) 0, .ref 1010, .bool false, .int (181) 0, .ref 1011, .none, .none, .none, .none, .int (1523) 0, .int (497) 0, .str "/claim/cut.py" 1524], #[]⟩
noncomputable def o667 (P : Params) : Obj := ⟨.type "frame", none, .plain, #[some (.ref 1012), some (.ref 3), some (.ref 1008), none, some (.str "heldfloods.deeds" 1160), none, some (.ref 0)]⟩
noncomputable def o668 (P : Params) : Obj := ⟨.type "tuple", none, .seq #[.ref 1009] 0, #[]⟩
noncomputable def o669 (P : Params) : Obj := ⟨.type "tuple", none, .seq #[.str "__class__" 1535] 0, #[]⟩
noncomputable def o670 (P : Params) : Obj := ⟨.type "tuple", none, .seq #[.str "self" 1536, .str "x" 1537, .str "y" 1538, .str "colour" 1539] 0, #[]⟩
noncomputable def o671 (P : Params) : Obj := ⟨.none, none, .func ⟨"__init__", "Flood.__init__", (fA (iC 62 1)), (.stmts (fB (iC 62 1))), (fS (iC 62 1)), 0, [], .none, .none, .none, .none, none, .none, .none, 0⟩, #[]⟩
noncomputable def o672 (P : Params) : Obj := ⟨.type "code", none, .fields #[.str "__init__" 1532, .str "Flood.__init__" 1533, .str "/claim/cut.py" 1534, .int (500) 0, .int (4) 0, .int (0) 0, .int (0) 0, .int (3) 0, .ref 1015, .bool true, .int (181) 0, .ref 1016, .none, .ref 1017, .ref 1018, .ref 1019, .int (1540) 0, .int (500) 0, .str "/claim/cut.py" 1541], #[]⟩
noncomputable def o673 (P : Params) : Obj := ⟨.type "function", none, .func ⟨"__init__", "Flood.__init__", (fA (iC 62 1)), (.stmts (fB (iC 62 1))), (fS (iC 62 1)), 3, [("__class__", 1009)], .none, .none, .none, .str "heldfloods.deeds" 1160, none, .ref 1020, .ref 1014, 0⟩, #[]⟩
noncomputable def o674 (P : Params) : Obj := ⟨.type "tuple", none, .seq #[.str "self" 1546, .str "canvas" 1547, .str "x" 1548, .str "y" 1549] 0, #[]⟩
noncomputable def o675 (P : Params) : Obj := ⟨.none, none, .func ⟨"on", "Flood.on", (fA (iC 62 2)), (.stmts (fB (iC 62 2))), (fS (iC 62 2)), 0, [], .none, .none, .none, .none, none, .none, .none, 0⟩, #[]⟩
noncomputable def o676 (P : Params) : Obj := ⟨.type "code", none, .fields #[.str "on" 1543, .str "Flood.on" 1544, .str "/claim/cut.py" 1545, .int (503) 0, .int (2) 0, .int (0) 0, .int (0) 0, .int (3) 0, .ref 1022, .bool true, .int (181) 0, .ref 1023, .none, .ref 1024, .ref 1025, .ref 1026, .int (1550) 0, .int (503) 0, .str "/claim/cut.py" 1551], #[]⟩
noncomputable def o677 (P : Params) : Obj := ⟨.type "function", none, .func ⟨"on", "Flood.on", (fA (iC 62 2)), (.stmts (fB (iC 62 2))), (fS (iC 62 2)), 3, [], .none, .none, .none, .str "heldfloods.deeds" 1160, none, .ref 1027, .none, 0⟩, #[]⟩
noncomputable def o678 (P : Params) : Obj := ⟨.type "tuple", none, .seq #[.str "self" 1556] 0, #[]⟩
noncomputable def o679 (P : Params) : Obj := ⟨.none, none, .func ⟨"__invert__", "Flood.__invert__", (fA (iC 62 3)), (.stmts (fB (iC 62 3))), (fS (iC 62 3)), 0, [], .none, .none, .none, .none, none, .none, .none, 0⟩, #[]⟩
noncomputable def o680 (P : Params) : Obj := ⟨.type "code", none, .fields #[.str "__invert__" 1553, .str "Flood.__invert__" 1554, .str "/claim/cut.py" 1555, .int (508) 0, .int (1) 0, .int (0) 0, .int (0) 0, .int (3) 0, .ref 1029, .bool true, .int (181) 0, .ref 1030, .none, .ref 1031, .ref 1032, .ref 1033, .int (1557) 0, .int (508) 0, .str "/claim/cut.py" 1558], #[]⟩
noncomputable def o681 (P : Params) : Obj := ⟨.type "function", none, .func ⟨"__invert__", "Flood.__invert__", (fA (iC 62 3)), (.stmts (fB (iC 62 3))), (fS (iC 62 3)), 3, [], .none, .none, .none, .str "heldfloods.deeds" 1160, none, .ref 1034, .none, 0⟩, #[]⟩
noncomputable def o682 (P : Params) : Obj := ⟨.type "tuple", none, .seq #[.str "self" 1563] 0, #[]⟩
noncomputable def o683 (P : Params) : Obj := ⟨.none, none, .func ⟨"__str__", "Flood.__str__", (fA (iC 62 4)), (.stmts (fB (iC 62 4))), (fS (iC 18 13)), 0, [], .none, .none, .none, .none, none, .none, .none, 0⟩, #[]⟩
noncomputable def o684 (P : Params) : Obj := ⟨.type "code", none, .fields #[.str "__str__" 1560, .str "Flood.__str__" 1561, .str "/claim/cut.py" 1562, .int (511) 0, .int (1) 0, .int (0) 0, .int (0) 0, .int (3) 0, .ref 1036, .bool true, .int (181) 0, .ref 1037, .none, .ref 1038, .ref 1039, .ref 1040, .int (1564) 0, .int (511) 0, .str "/claim/cut.py" 1565], #[]⟩
noncomputable def o685 (P : Params) : Obj := ⟨.type "function", none, .func ⟨"__str__", "Flood.__str__", (fA (iC 62 4)), (.stmts (fB (iC 62 4))), (fS (iC 18 13)), 3, [], .none, .none, .none, .str "heldfloods.deeds" 1160, none, .ref 1041, .none, 0⟩, #[]⟩
noncomputable def o686 (P : Params) : Obj := ⟨.type "dict", none, .dict #[en P "__module__" 1525 (.str "heldfloods.deeds" 1160), en P "__firstlineno__" 1529 (.int (497) 1528), en P "KIND" 1531 (.str "flood" 1530), en P "__init__" 1542 (.ref 1021), en P "on" 1552 (.ref 1028), en P "__invert__" 1559 (.ref 1035), en P "__str__" 1566 (.ref 1042), en P "__static_attributes__" 1567 (.ref 1043), en P "__doc__" 1569 (.none)] 3, #[]⟩
noncomputable def o687 (P : Params) : Obj := ⟨.type "type", none, .cls ⟨"Flood", [.ref 845, .ref 874], [.ref 1045, .ref 845, .ref 874, .ref 778, .type "object"], 1044, "Flood", true, [], [], false, none, false⟩, #[some (.ref 1006), none, some (.str "Flood" 1518), some (.str "Flood" 1526), some (.builtin "object.__new__"), some (.bool true)]⟩
noncomputable def o688 (P : Params) : Obj := ⟨.type "super", none, .fields #[.ref 1045, .ref 1045, .ref 1045], #[]⟩
noncomputable def o689 (P : Params) : Obj := ⟨.type "builtin_function_or_method", none, .fields #[.builtin "object.__init_subclass__", .ref 1045], #[]⟩
noncomputable def o690 (P : Params) : Obj := ⟨.type "tuple", none, .seq #[.ref 809, .ref 845] 0, #[]⟩
noncomputable def o691 (P : Params) : Obj := ⟨.type "dict", none, .dict #[en P "__module__" 1579 (.str "heldfloods.deeds" 1160), en P "__qualname__" 1581 (.str "Copy" 1580), en P "__firstlineno__" 1583 (.int (513) 1582), en P "KIND" 1585 (.str "copy" 1584), en P "__init__" 1596 (.ref 1063), en P "on" 1614 (.ref 1070), en P "__invert__" 1621 (.ref 1077), en P "__str__" 1628 (.ref 1084), en P "__static_attributes__" 1629 (.ref 1085), en P "__classcell__" 1630 (.ref 1051)] 10, #[]⟩
noncomputable def o692 (P : Params) : Obj := ⟨.type "cell", none, .cell (some (.ref 1087)), #[]⟩
noncomputable def o693 (P : Params) : Obj := ⟨.none, none, .fields #[.int (516) 0, .int (4) 0, .ref 1062, .int (519) 0, .int (4) 0, .ref 1069, .int (528) 0, .int (4) 0, .ref 1076, .int (531) 0, .int (4) 0, .ref 1083], #[]⟩
noncomputable def o694 (P : Params) : Obj := ⟨.type "code", none, .fields #[.str "Copy" 1574, .str "Copy" 1575, .str "/claim/cut.py" 1576, .int (513) 0, .int (0) 0, .int (0) 0, .int (0) 0, .int (0) 0, .ref 1052, .bool false, .int (181) 0, .ref 1053, .none, .none, .none, .none, .int (1577) 0, .int (513) 0, .str "/claim/cut.py" 1578], #[]⟩
noncomputable def o695 (P : Params) : Obj := ⟨.type "frame", none, .plain, #[some (.ref 1054), some (.ref 3), some (.ref 1050), none, some (.str "heldfloods.deeds" 1160), none, some (.ref 0)]⟩
noncomputable def o696 (P : Params) : Obj := ⟨.type "tuple", none, .seq #[.ref 1051] 0, #[]⟩
noncomputable def o697 (P : Params) : Obj := ⟨.type "tuple", none, .seq #[.str "__class__" 1589] 0, #[]⟩
noncomputable def o698 (P : Params) : Obj := ⟨.type "tuple", none, .seq #[.str "self" 1590, .str "box" 1591, .str "x" 1592, .str "y" 1593] 0, #[]⟩
noncomputable def o699 (P : Params) : Obj := ⟨.none, none, .func ⟨"__init__", "Copy.__init__", (fA (iC 63 1)), (.stmts (fB (iC 63 1))), (fS (iC 63 1)), 0, [], .none, .none, .none, .none, none, .none, .none, 0⟩, #[]⟩
noncomputable def o700 (P : Params) : Obj := ⟨.type "code", none, .fields #[.str "__init__" 1586, .str "Copy.__init__" 1587, .str "/claim/cut.py" 1588, .int (516) 0, .int (4) 0, .int (0) 0, .int (0) 0, .int (3) 0, .ref 1057, .bool true, .int (181) 0, .ref 1058, .none, .ref 1059, .ref 1060, .ref 1061, .int (1594) 0, .int (516) 0, .str "/claim/cut.py" 1595], #[]⟩
noncomputable def o701 (P : Params) : Obj := ⟨.type "function", none, .func ⟨"__init__", "Copy.__init__", (fA (iC 63 1)), (.stmts (fB (iC 63 1))), (fS (iC 63 1)), 3, [("__class__", 1051)], .none, .none, .none, .str "heldfloods.deeds" 1160, none, .ref 1062, .ref 1056, 0⟩, #[]⟩
noncomputable def o702 (P : Params) : Obj := ⟨.type "tuple", none, .seq #[.str "self" 1600, .str "canvas" 1601, .str "x0" 1602, .str "x1" 1603, .str "y0" 1604, .str "y1" 1605, .str "x" 1606, .str "y" 1607, .str "elder" 1608, .str "spots" 1609, .str "i" 1610, .str "j" 1611] 0, #[]⟩
noncomputable def o703 (P : Params) : Obj := ⟨.none, none, .func ⟨"on", "Copy.on", (fA (iC 63 2)), (.stmts (fB (iC 63 2))), (fS (iC 63 2)), 0, [], .none, .none, .none, .none, none, .none, .none, 0⟩, #[]⟩
noncomputable def o704 (P : Params) : Obj := ⟨.type "code", none, .fields #[.str "on" 1597, .str "Copy.on" 1598, .str "/claim/cut.py" 1599, .int (519) 0, .int (2) 0, .int (0) 0, .int (0) 0, .int (3) 0, .ref 1064, .bool true, .int (181) 0, .ref 1065, .none, .ref 1066, .ref 1067, .ref 1068, .int (1612) 0, .int (519) 0, .str "/claim/cut.py" 1613], #[]⟩
noncomputable def o705 (P : Params) : Obj := ⟨.type "function", none, .func ⟨"on", "Copy.on", (fA (iC 63 2)), (.stmts (fB (iC 63 2))), (fS (iC 63 2)), 3, [], .none, .none, .none, .str "heldfloods.deeds" 1160, none, .ref 1069, .none, 0⟩, #[]⟩
noncomputable def o706 (P : Params) : Obj := ⟨.type "tuple", none, .seq #[.str "self" 1618] 0, #[]⟩
noncomputable def o707 (P : Params) : Obj := ⟨.none, none, .func ⟨"__invert__", "Copy.__invert__", (fA (iC 63 3)), (.stmts (fB (iC 63 3))), (fS (iC 63 3)), 0, [], .none, .none, .none, .none, none, .none, .none, 0⟩, #[]⟩
noncomputable def o708 (P : Params) : Obj := ⟨.type "code", none, .fields #[.str "__invert__" 1615, .str "Copy.__invert__" 1616, .str "/claim/cut.py" 1617, .int (528) 0, .int (1) 0, .int (0) 0, .int (0) 0, .int (3) 0, .ref 1071, .bool true, .int (181) 0, .ref 1072, .none, .ref 1073, .ref 1074, .ref 1075, .int (1619) 0, .int (528) 0, .str "/claim/cut.py" 1620], #[]⟩
noncomputable def o709 (P : Params) : Obj := ⟨.type "function", none, .func ⟨"__invert__", "Copy.__invert__", (fA (iC 63 3)), (.stmts (fB (iC 63 3))), (fS (iC 63 3)), 3, [], .none, .none, .none, .str "heldfloods.deeds" 1160, none, .ref 1076, .none, 0⟩, #[]⟩
noncomputable def o710 (P : Params) : Obj := ⟨.type "tuple", none, .seq #[.str "self" 1625] 0, #[]⟩
noncomputable def o711 (P : Params) : Obj := ⟨.none, none, .func ⟨"__str__", "Copy.__str__", (fA (iC 63 4)), (.stmts (fB (iC 63 4))), (fS (iC 18 13)), 0, [], .none, .none, .none, .none, none, .none, .none, 0⟩, #[]⟩
noncomputable def o712 (P : Params) : Obj := ⟨.type "code", none, .fields #[.str "__str__" 1622, .str "Copy.__str__" 1623, .str "/claim/cut.py" 1624, .int (531) 0, .int (1) 0, .int (0) 0, .int (0) 0, .int (3) 0, .ref 1078, .bool true, .int (181) 0, .ref 1079, .none, .ref 1080, .ref 1081, .ref 1082, .int (1626) 0, .int (531) 0, .str "/claim/cut.py" 1627], #[]⟩
noncomputable def o713 (P : Params) : Obj := ⟨.type "function", none, .func ⟨"__str__", "Copy.__str__", (fA (iC 63 4)), (.stmts (fB (iC 63 4))), (fS (iC 18 13)), 3, [], .none, .none, .none, .str "heldfloods.deeds" 1160, none, .ref 1083, .none, 0⟩, #[]⟩
noncomputable def o714 (P : Params) : Obj := ⟨.type "dict", none, .dict #[en P "__module__" 1579 (.str "heldfloods.deeds" 1160), en P "__firstlineno__" 1583 (.int (513) 1582), en P "KIND" 1585 (.str "copy" 1584), en P "__init__" 1596 (.ref 1063), en P "on" 1614 (.ref 1070), en P "__invert__" 1621 (.ref 1077), en P "__str__" 1628 (.ref 1084), en P "__static_attributes__" 1629 (.ref 1085), en P "__doc__" 1631 (.none)] 3, #[]⟩
noncomputable def o715 (P : Params) : Obj := ⟨.type "type", none, .cls ⟨"Copy", [.ref 809, .ref 845], [.ref 1087, .ref 809, .ref 845, .ref 778, .type "object"], 1086, "Copy", true, [], [], false, none, false⟩, #[some (.ref 1048), none, some (.str "Copy" 1572), some (.str "Copy" 1580), some (.builtin "object.__new__"), some (.bool true)]⟩
noncomputable def o716 (P : Params) : Obj := ⟨.type "super", none, .fields #[.ref 1087, .ref 1087, .ref 1087], #[]⟩
noncomputable def o717 (P : Params) : Obj := ⟨.type "builtin_function_or_method", none, .fields #[.builtin "object.__init_subclass__", .ref 1087], #[]⟩
noncomputable def o718 (P : Params) : Obj := ⟨.type "dict", none, .dict #[en P "__module__" 1641 (.str "heldfloods.deeds" 1160), en P "__qualname__" 1643 (.str "Flip" 1642), en P "__firstlineno__" 1645 (.int (533) 1644), en P "KIND" 1647 (.str "flip" 1646), en P "__init__" 1656 (.ref 1105), en P "facts" 1663 (.ref 1112), en P "on" 1674 (.ref 1119), en P "__invert__" 1681 (.ref 1126), en P "__str__" 1688 (.ref 1133), en P "__static_attributes__" 1690 (.ref 1134), en P "__classcell__" 1691 (.ref 1093)] 11, #[]⟩
noncomputable def o719 (P : Params) : Obj := ⟨.type "cell", none, .cell (some (.ref 1136)), #[]⟩
noncomputable def o720 (P : Params) : Obj := ⟨.none, none, .fields #[.int (536) 0, .int (4) 0, .ref 1104, .int (541) 0, .int (4) 0, .ref 1111, .int (544) 0, .int (4) 0, .ref 1118, .int (553) 0, .int (4) 0, .ref 1125, .int (556) 0, .int (4) 0, .ref 1132], #[]⟩
noncomputable def o721 (P : Params) : Obj := ⟨.type "code", none, .fields #[.str "Flip" 1636, .str "Flip" 1637, .str "/claim/cut.py" 1638, .int (533) 0, .int (0) 0, .int (0) 0, .int (0) 0, .int (0) 0, .ref 1094, .bool false, .int (181) 0, .ref 1095, .none, .none, .none, .none, .int (1639) 0, .int (533) 0, .str "/claim/cut.py" 1640], #[]⟩
noncomputable def o722 (P : Params) : Obj := ⟨.type "frame", none, .plain, #[some (.ref 1096), some (.ref 3), some (.ref 1092), none, some (.str "heldfloods.deeds" 1160), none, some (.ref 0)]⟩
noncomputable def o723 (P : Params) : Obj := ⟨.type "tuple", none, .seq #[.ref 1093] 0, #[]⟩
noncomputable def o724 (P : Params) : Obj := ⟨.type "tuple", none, .seq #[.str "__class__" 1651] 0, #[]⟩
noncomputable def o725 (P : Params) : Obj := ⟨.type "tuple", none, .seq #[.str "self" 1652, .str "axis" 1653] 0, #[]⟩
noncomputable def o726 (P : Params) : Obj := ⟨.none, none, .func ⟨"__init__", "Flip.__init__", (fA (iC 64 1)), (.stmts (fB (iC 64 1))), (fS (iC 64 1)), 0, [], .none, .none, .none, .none, none, .none, .none, 0⟩, #[]⟩
noncomputable def o727 (P : Params) : Obj := ⟨.type "code", none, .fields #[.str "__init__" 1648, .str "Flip.__init__" 1649, .str "/claim/cut.py" 1650, .int (536) 0, .int (2) 0, .int (0) 0, .int (0) 0, .int (3) 0, .ref 1099, .bool true, .int (181) 0, .ref 1100, .none, .ref 1101, .ref 1102, .ref 1103, .int (1654) 0, .int (536) 0, .str "/claim/cut.py" 1655], #[]⟩
noncomputable def o728 (P : Params) : Obj := ⟨.type "function", none, .func ⟨"__init__", "Flip.__init__", (fA (iC 64 1)), (.stmts (fB (iC 64 1))), (fS (iC 64 1)), 3, [("__class__", 1093)], .none, .none, .none, .str "heldfloods.deeds" 1160, none, .ref 1104, .ref 1098, 0⟩, #[]⟩
noncomputable def o729 (P : Params) : Obj := ⟨.type "tuple", none, .seq #[.str "self" 1660] 0, #[]⟩
noncomputable def o730 (P : Params) : Obj := ⟨.none, none, .func ⟨"facts", "Flip.facts", (fA (iC 64 2)), (.stmts (fB (iC 64 2))), (fS (iC 18 13)), 0, [], .none, .none, .none, .none, none, .none, .none, 0⟩, #[]⟩
noncomputable def o731 (P : Params) : Obj := ⟨.type "code", none, .fields #[.str "facts" 1657, .str "Flip.facts" 1658, .str "/claim/cut.py" 1659, .int (541) 0, .int (1) 0, .int (0) 0, .int (0) 0, .int (3) 0, .ref 1106, .bool true, .int (181) 0, .ref 1107, .none, .ref 1108, .ref 1109, .ref 1110, .int (1661) 0, .int (541) 0, .str "/claim/cut.py" 1662], #[]⟩
noncomputable def o732 (P : Params) : Obj := ⟨.type "function", none, .func ⟨"facts", "Flip.facts", (fA (iC 64 2)), (.stmts (fB (iC 64 2))), (fS (iC 18 13)), 3, [], .none, .none, .none, .str "heldfloods.deeds" 1160, none, .ref 1111, .none, 0⟩, #[]⟩
noncomputable def o733 (P : Params) : Obj := ⟨.type "tuple", none, .seq #[.str "self" 1667, .str "canvas" 1668, .str "elder" 1669, .str "y" 1670, .str "x" 1671] 0, #[]⟩
noncomputable def o734 (P : Params) : Obj := ⟨.none, none, .func ⟨"on", "Flip.on", (fA (iC 64 3)), (.stmts (fB (iC 64 3))), (fS (iC 64 3)), 0, [], .none, .none, .none, .none, none, .none, .none, 0⟩, #[]⟩
noncomputable def o735 (P : Params) : Obj := ⟨.type "code", none, .fields #[.str "on" 1664, .str "Flip.on" 1665, .str "/claim/cut.py" 1666, .int (544) 0, .int (2) 0, .int (0) 0, .int (0) 0, .int (3) 0, .ref 1113, .bool true, .int (181) 0, .ref 1114, .none, .ref 1115, .ref 1116, .ref 1117, .int (1672) 0, .int (544) 0, .str "/claim/cut.py" 1673], #[]⟩
noncomputable def o736 (P : Params) : Obj := ⟨.type "function", none, .func ⟨"on", "Flip.on", (fA (iC 64 3)), (.stmts (fB (iC 64 3))), (fS (iC 64 3)), 3, [], .none, .none, .none, .str "heldfloods.deeds" 1160, none, .ref 1118, .none, 0⟩, #[]⟩
noncomputable def o737 (P : Params) : Obj := ⟨.type "tuple", none, .seq #[.str "self" 1678] 0, #[]⟩
noncomputable def o738 (P : Params) : Obj := ⟨.none, none, .func ⟨"__invert__", "Flip.__invert__", (fA (iC 64 4)), (.stmts (fB (iC 64 4))), (fS (iC 18 13)), 0, [], .none, .none, .none, .none, none, .none, .none, 0⟩, #[]⟩
noncomputable def o739 (P : Params) : Obj := ⟨.type "code", none, .fields #[.str "__invert__" 1675, .str "Flip.__invert__" 1676, .str "/claim/cut.py" 1677, .int (553) 0, .int (1) 0, .int (0) 0, .int (0) 0, .int (3) 0, .ref 1120, .bool true, .int (181) 0, .ref 1121, .none, .ref 1122, .ref 1123, .ref 1124, .int (1679) 0, .int (553) 0, .str "/claim/cut.py" 1680], #[]⟩
noncomputable def o740 (P : Params) : Obj := ⟨.type "function", none, .func ⟨"__invert__", "Flip.__invert__", (fA (iC 64 4)), (.stmts (fB (iC 64 4))), (fS (iC 18 13)), 3, [], .none, .none, .none, .str "heldfloods.deeds" 1160, none, .ref 1125, .none, 0⟩, #[]⟩
noncomputable def o741 (P : Params) : Obj := ⟨.type "tuple", none, .seq #[.str "self" 1685] 0, #[]⟩
noncomputable def o742 (P : Params) : Obj := ⟨.none, none, .func ⟨"__str__", "Flip.__str__", (fA (iC 64 5)), (.stmts (fB (iC 64 5))), (fS (iC 18 13)), 0, [], .none, .none, .none, .none, none, .none, .none, 0⟩, #[]⟩
noncomputable def o743 (P : Params) : Obj := ⟨.type "code", none, .fields #[.str "__str__" 1682, .str "Flip.__str__" 1683, .str "/claim/cut.py" 1684, .int (556) 0, .int (1) 0, .int (0) 0, .int (0) 0, .int (3) 0, .ref 1127, .bool true, .int (181) 0, .ref 1128, .none, .ref 1129, .ref 1130, .ref 1131, .int (1686) 0, .int (556) 0, .str "/claim/cut.py" 1687], #[]⟩
noncomputable def o744 (P : Params) : Obj := ⟨.type "function", none, .func ⟨"__str__", "Flip.__str__", (fA (iC 64 5)), (.stmts (fB (iC 64 5))), (fS (iC 18 13)), 3, [], .none, .none, .none, .str "heldfloods.deeds" 1160, none, .ref 1132, .none, 0⟩, #[]⟩
noncomputable def o745 (P : Params) : Obj := ⟨.type "tuple", none, .seq #[.str "axis" 1689] 0, #[]⟩
noncomputable def o746 (P : Params) : Obj := ⟨.type "dict", none, .dict #[en P "__module__" 1641 (.str "heldfloods.deeds" 1160), en P "__firstlineno__" 1645 (.int (533) 1644), en P "KIND" 1647 (.str "flip" 1646), en P "__init__" 1656 (.ref 1105), en P "facts" 1663 (.ref 1112), en P "on" 1674 (.ref 1119), en P "__invert__" 1681 (.ref 1126), en P "__str__" 1688 (.ref 1133), en P "__static_attributes__" 1690 (.ref 1134), en P "__doc__" 1692 (.none)] 3, #[]⟩
noncomputable def o747 (P : Params) : Obj := ⟨.type "type", none, .cls ⟨"Flip", [.ref 778], [.ref 1136, .ref 778, .type "object"], 1135, "Flip", true, [], [], false, none, false⟩, #[some (.ref 1090), none, some (.str "Flip" 1634), some (.str "Flip" 1642), some (.builtin "object.__new__"), some (.bool true)]⟩
noncomputable def o748 (P : Params) : Obj := ⟨.type "super", none, .fields #[.ref 1136, .ref 1136, .ref 1136], #[]⟩
noncomputable def o749 (P : Params) : Obj := ⟨.type "builtin_function_or_method", none, .fields #[.builtin "object.__init_subclass__", .ref 1136], #[]⟩
noncomputable def o750 (P : Params) : Obj := ⟨.type "tuple", none, .seq #[.str "colour" 1698, .str "one" 1699, .str "other" 1700] 0, #[]⟩
noncomputable def o751 (P : Params) : Obj := ⟨.none, none, .func ⟨"swapped", "swapped", (fA (tS 65)), (.stmts (fB (tS 65))), (fS (tS 65)), 0, [], .none, .none, .none, .none, none, .none, .none, 0⟩, #[]⟩
noncomputable def o752 (P : Params) : Obj := ⟨.type "code", none, .fields #[.str "swapped" 1695, .str "swapped" 1696, .str "/claim/cut.py" 1697, .int (558) 0, .int (3) 0, .int (0) 0, .int (0) 0, .int (3) 0, .ref 1139, .bool true, .int (181) 0, .ref 1140, .none, .ref 1141, .ref 1142, .ref 1143, .int (1701) 0, .int (558) 0, .str "/claim/cut.py" 1702], #[]⟩
noncomputable def o753 (P : Params) : Obj := ⟨.type "function", none, .func ⟨"swapped", "swapped", (fA (tS 65)), (.stmts (fB (tS 65))), (fS (tS 65)), 3, [], .none, .none, .none, .str "heldfloods.deeds" 1160, none, .ref 1144, .none, 0⟩, #[]⟩
noncomputable def o754 (P : Params) : Obj := ⟨.type "dict", none, .dict #[en P "__module__" 1711 (.str "heldfloods.deeds" 1160), en P "__qualname__" 1713 (.str "Swap" 1712), en P "__firstlineno__" 1715 (.int (562) 1714), en P "KIND" 1717 (.str "swap" 1716), en P "__init__" 1727 (.ref 1161), en P "facts" 1734 (.ref 1168), en P "on" 1744 (.ref 1175), en P "__invert__" 1751 (.ref 1182), en P "__str__" 1758 (.ref 1189), en P "__static_attributes__" 1761 (.ref 1190), en P "__classcell__" 1762 (.ref 1149)] 11, #[]⟩
noncomputable def o755 (P : Params) : Obj := ⟨.type "cell", none, .cell (some (.ref 1192)), #[]⟩
noncomputable def o756 (P : Params) : Obj := ⟨.none, none, .fields #[.int (565) 0, .int (4) 0, .ref 1160, .int (572) 0, .int (4) 0, .ref 1167, .int (575) 0, .int (4) 0, .ref 1174, .int (580) 0, .int (4) 0, .ref 1181, .int (583) 0, .int (4) 0, .ref 1188], #[]⟩
noncomputable def o757 (P : Params) : Obj := ⟨.type "code", none, .fields #[.str "Swap" 1706, .str "Swap" 1707, .str "/claim/cut.py" 1708, .int (562) 0, .int (0) 0, .int (0) 0, .int (0) 0, .int (0) 0, .ref 1150, .bool false, .int (181) 0, .ref 1151, .none, .none, .none, .none, .int (1709) 0, .int (562) 0, .str "/claim/cut.py" 1710], #[]⟩
noncomputable def o758 (P : Params) : Obj := ⟨.type "frame", none, .plain, #[some (.ref 1152), some (.ref 3), some (.ref 1148), none, some (.str "heldfloods.deeds" 1160), none, some (.ref 0)]⟩
noncomputable def o759 (P : Params) : Obj := ⟨.type "tuple", none, .seq #[.ref 1149] 0, #[]⟩
noncomputable def o760 (P : Params) : Obj := ⟨.type "tuple", none, .seq #[.str "__class__" 1721] 0, #[]⟩
noncomputable def o761 (P : Params) : Obj := ⟨.type "tuple", none, .seq #[.str "self" 1722, .str "one" 1723, .str "other" 1724] 0, #[]⟩
noncomputable def o762 (P : Params) : Obj := ⟨.none, none, .func ⟨"__init__", "Swap.__init__", (fA (iC 66 1)), (.stmts (fB (iC 66 1))), (fS (iC 66 1)), 0, [], .none, .none, .none, .none, none, .none, .none, 0⟩, #[]⟩
noncomputable def o763 (P : Params) : Obj := ⟨.type "code", none, .fields #[.str "__init__" 1718, .str "Swap.__init__" 1719, .str "/claim/cut.py" 1720, .int (565) 0, .int (3) 0, .int (0) 0, .int (0) 0, .int (3) 0, .ref 1155, .bool true, .int (181) 0, .ref 1156, .none, .ref 1157, .ref 1158, .ref 1159, .int (1725) 0, .int (565) 0, .str "/claim/cut.py" 1726], #[]⟩
noncomputable def o764 (P : Params) : Obj := ⟨.type "function", none, .func ⟨"__init__", "Swap.__init__", (fA (iC 66 1)), (.stmts (fB (iC 66 1))), (fS (iC 66 1)), 3, [("__class__", 1149)], .none, .none, .none, .str "heldfloods.deeds" 1160, none, .ref 1160, .ref 1154, 0⟩, #[]⟩
noncomputable def o765 (P : Params) : Obj := ⟨.type "tuple", none, .seq #[.str "self" 1731] 0, #[]⟩
noncomputable def o766 (P : Params) : Obj := ⟨.none, none, .func ⟨"facts", "Swap.facts", (fA (iC 66 2)), (.stmts (fB (iC 66 2))), (fS (iC 18 13)), 0, [], .none, .none, .none, .none, none, .none, .none, 0⟩, #[]⟩
noncomputable def o767 (P : Params) : Obj := ⟨.type "code", none, .fields #[.str "facts" 1728, .str "Swap.facts" 1729, .str "/claim/cut.py" 1730, .int (572) 0, .int (1) 0, .int (0) 0, .int (0) 0, .int (3) 0, .ref 1162, .bool true, .int (181) 0, .ref 1163, .none, .ref 1164, .ref 1165, .ref 1166, .int (1732) 0, .int (572) 0, .str "/claim/cut.py" 1733], #[]⟩
noncomputable def o768 (P : Params) : Obj := ⟨.type "function", none, .func ⟨"facts", "Swap.facts", (fA (iC 66 2)), (.stmts (fB (iC 66 2))), (fS (iC 18 13)), 3, [], .none, .none, .none, .str "heldfloods.deeds" 1160, none, .ref 1167, .none, 0⟩, #[]⟩
noncomputable def o769 (P : Params) : Obj := ⟨.type "tuple", none, .seq #[.str "self" 1738, .str "canvas" 1739, .str "y" 1740, .str "x" 1741] 0, #[]⟩
noncomputable def o770 (P : Params) : Obj := ⟨.none, none, .func ⟨"on", "Swap.on", (fA (iC 66 3)), (.stmts (fB (iC 66 3))), (fS (iC 66 3)), 0, [], .none, .none, .none, .none, none, .none, .none, 0⟩, #[]⟩
noncomputable def o771 (P : Params) : Obj := ⟨.type "code", none, .fields #[.str "on" 1735, .str "Swap.on" 1736, .str "/claim/cut.py" 1737, .int (575) 0, .int (2) 0, .int (0) 0, .int (0) 0, .int (3) 0, .ref 1169, .bool true, .int (181) 0, .ref 1170, .none, .ref 1171, .ref 1172, .ref 1173, .int (1742) 0, .int (575) 0, .str "/claim/cut.py" 1743], #[]⟩
noncomputable def o772 (P : Params) : Obj := ⟨.type "function", none, .func ⟨"on", "Swap.on", (fA (iC 66 3)), (.stmts (fB (iC 66 3))), (fS (iC 66 3)), 3, [], .none, .none, .none, .str "heldfloods.deeds" 1160, none, .ref 1174, .none, 0⟩, #[]⟩
noncomputable def o773 (P : Params) : Obj := ⟨.type "tuple", none, .seq #[.str "self" 1748] 0, #[]⟩
noncomputable def o774 (P : Params) : Obj := ⟨.none, none, .func ⟨"__invert__", "Swap.__invert__", (fA (iC 66 4)), (.stmts (fB (iC 66 4))), (fS (iC 18 13)), 0, [], .none, .none, .none, .none, none, .none, .none, 0⟩, #[]⟩
noncomputable def o775 (P : Params) : Obj := ⟨.type "code", none, .fields #[.str "__invert__" 1745, .str "Swap.__invert__" 1746, .str "/claim/cut.py" 1747, .int (580) 0, .int (1) 0, .int (0) 0, .int (0) 0, .int (3) 0, .ref 1176, .bool true, .int (181) 0, .ref 1177, .none, .ref 1178, .ref 1179, .ref 1180, .int (1749) 0, .int (580) 0, .str "/claim/cut.py" 1750], #[]⟩
noncomputable def o776 (P : Params) : Obj := ⟨.type "function", none, .func ⟨"__invert__", "Swap.__invert__", (fA (iC 66 4)), (.stmts (fB (iC 66 4))), (fS (iC 18 13)), 3, [], .none, .none, .none, .str "heldfloods.deeds" 1160, none, .ref 1181, .none, 0⟩, #[]⟩
noncomputable def o777 (P : Params) : Obj := ⟨.type "tuple", none, .seq #[.str "self" 1755] 0, #[]⟩
noncomputable def o778 (P : Params) : Obj := ⟨.none, none, .func ⟨"__str__", "Swap.__str__", (fA (iC 66 5)), (.stmts (fB (iC 66 5))), (fS (iC 18 13)), 0, [], .none, .none, .none, .none, none, .none, .none, 0⟩, #[]⟩
noncomputable def o779 (P : Params) : Obj := ⟨.type "code", none, .fields #[.str "__str__" 1752, .str "Swap.__str__" 1753, .str "/claim/cut.py" 1754, .int (583) 0, .int (1) 0, .int (0) 0, .int (0) 0, .int (3) 0, .ref 1183, .bool true, .int (181) 0, .ref 1184, .none, .ref 1185, .ref 1186, .ref 1187, .int (1756) 0, .int (583) 0, .str "/claim/cut.py" 1757], #[]⟩
noncomputable def o780 (P : Params) : Obj := ⟨.type "function", none, .func ⟨"__str__", "Swap.__str__", (fA (iC 66 5)), (.stmts (fB (iC 66 5))), (fS (iC 18 13)), 3, [], .none, .none, .none, .str "heldfloods.deeds" 1160, none, .ref 1188, .none, 0⟩, #[]⟩
noncomputable def o781 (P : Params) : Obj := ⟨.type "tuple", none, .seq #[.str "one" 1759, .str "other" 1760] 0, #[]⟩
noncomputable def o782 (P : Params) : Obj := ⟨.type "dict", none, .dict #[en P "__module__" 1711 (.str "heldfloods.deeds" 1160), en P "__firstlineno__" 1715 (.int (562) 1714), en P "KIND" 1717 (.str "swap" 1716), en P "__init__" 1727 (.ref 1161), en P "facts" 1734 (.ref 1168), en P "on" 1744 (.ref 1175), en P "__invert__" 1751 (.ref 1182), en P "__str__" 1758 (.ref 1189), en P "__static_attributes__" 1761 (.ref 1190), en P "__doc__" 1763 (.none)] 3, #[]⟩
noncomputable def o783 (P : Params) : Obj := ⟨.type "type", none, .cls ⟨"Swap", [.ref 778], [.ref 1192, .ref 778, .type "object"], 1191, "Swap", true, [], [], false, none, false⟩, #[some (.ref 1146), none, some (.str "Swap" 1704), some (.str "Swap" 1712), some (.builtin "object.__new__"), some (.bool true)]⟩
noncomputable def o784 (P : Params) : Obj := ⟨.type "super", none, .fields #[.ref 1192, .ref 1192, .ref 1192], #[]⟩
noncomputable def o785 (P : Params) : Obj := ⟨.type "builtin_function_or_method", none, .fields #[.builtin "object.__init_subclass__", .ref 1192], #[]⟩
noncomputable def o786 (P : Params) : Obj := ⟨.none, none, .func ⟨"neighbours", "neighbours", (fA (tS 67)), (.stmts (fB (tS 67))), (fS (tS 67)), 0, [], .none, .none, .none, .none, none, .none, .none, 0⟩, #[]⟩
noncomputable def o787 (P : Params) : Obj := ⟨.type "code", none, .fields #[.str "neighbours" 1766, .str "neighbours" 1767, .str "/claim/cut.py" 1768, .int (585) 0, .int (4) 0, .int (0) 0, .int (0) 0, .int (3) 0, .ref 1195, .bool true, .int (181) 0, .ref 1196, .none, .none, .none, .ref 1197, .int (1769) 0, .int (585) 0, .str "/claim/cut.py" 1770], #[]⟩
noncomputable def o788 (P : Params) : Obj := ⟨.type "function", none, .func ⟨"neighbours", "neighbours", (fA (tS 67)), (.stmts (fB (tS 67))), (fS (tS 67)), 3, [], .none, .none, .none, .str "heldfloods.deeds" 1160, none, .ref 1198, .none, 0⟩, #[]⟩
noncomputable def o789 (P : Params) : Obj := ⟨.type "tuple", none, .seq #[.ref 874] 0, #[]⟩
noncomputable def o790 (P : Params) : Obj := ⟨.type "dict", none, .dict #[en P "__module__" 1779 (.str "heldfloods.deeds" 1160), en P "__qualname__" 1781 (.str "Grow" 1780), en P "__firstlineno__" 1783 (.int (588) 1782), en P "KIND" 1785 (.str "grow" 1784), en P "__init__" 1794 (.ref 1215), en P "on" 1800 (.ref 1220), en P "__invert__" 1807 (.ref 1227), en P "__str__" 1814 (.ref 1234), en P "__static_attributes__" 1815 (.ref 1235), en P "__classcell__" 1816 (.ref 1203)] 10, #[]⟩
noncomputable def o791 (P : Params) : Obj := ⟨.type "cell", none, .cell (some (.ref 1237)), #[]⟩
noncomputable def o792 (P : Params) : Obj := ⟨.none, none, .fields #[.int (591) 0, .int (4) 0, .ref 1214, .int (594) 0, .int (4) 0, .ref 1219, .int (602) 0, .int (4) 0, .ref 1226, .int (605) 0, .int (4) 0, .ref 1233], #[]⟩
noncomputable def o793 (P : Params) : Obj := ⟨.type "code", none, .fields #[.str "Grow" 1774, .str "Grow" 1775, .str "/claim/cut.py" 1776, .int (588) 0, .int (0) 0, .int (0) 0, .int (0) 0, .int (0) 0, .ref 1204, .bool false, .int (181) 0, .ref 1205, .none, .none, .none, .none, .int (1777) 0, .int (588) 0, .str "/claim/cut.py" 1778], #[]⟩
noncomputable def o794 (P : Params) : Obj := ⟨.type "frame", none, .plain, #[some (.ref 1206), some (.ref 3), some (.ref 1202), none, some (.str "heldfloods.deeds" 1160), none, some (.ref 0)]⟩
noncomputable def o795 (P : Params) : Obj := ⟨.type "tuple", none, .seq #[.ref 1203] 0, #[]⟩
noncomputable def o796 (P : Params) : Obj := ⟨.type "tuple", none, .seq #[.str "__class__" 1789] 0, #[]⟩
noncomputable def o797 (P : Params) : Obj := ⟨.type "tuple", none, .seq #[.str "self" 1790, .str "colour" 1791] 0, #[]⟩
noncomputable def o798 (P : Params) : Obj := ⟨.none, none, .func ⟨"__init__", "Grow.__init__", (fA (iC 68 1)), (.stmts (fB (iC 68 1))), (fS (iC 68 1)), 0, [], .none, .none, .none, .none, none, .none, .none, 0⟩, #[]⟩
noncomputable def o799 (P : Params) : Obj := ⟨.type "code", none, .fields #[.str "__init__" 1786, .str "Grow.__init__" 1787, .str "/claim/cut.py" 1788, .int (591) 0, .int (2) 0, .int (0) 0, .int (0) 0, .int (3) 0, .ref 1209, .bool true, .int (181) 0, .ref 1210, .none, .ref 1211, .ref 1212, .ref 1213, .int (1792) 0, .int (591) 0, .str "/claim/cut.py" 1793], #[]⟩
noncomputable def o800 (P : Params) : Obj := ⟨.type "function", none, .func ⟨"__init__", "Grow.__init__", (fA (iC 68 1)), (.stmts (fB (iC 68 1))), (fS (iC 68 1)), 3, [("__class__", 1203)], .none, .none, .none, .str "heldfloods.deeds" 1160, none, .ref 1214, .ref 1208, 0⟩, #[]⟩
noncomputable def o801 (P : Params) : Obj := ⟨.none, none, .func ⟨"on", "Grow.on", (fA (iC 68 2)), (.stmts (fB (iC 68 2))), (fS (iC 68 2)), 0, [], .none, .none, .none, .none, none, .none, .none, 0⟩, #[]⟩
noncomputable def o802 (P : Params) : Obj := ⟨.type "code", none, .fields #[.str "on" 1795, .str "Grow.on" 1796, .str "/claim/cut.py" 1797, .int (594) 0, .int (2) 0, .int (0) 0, .int (0) 0, .int (3) 0, .ref 1216, .bool true, .int (181) 0, .ref 1217, .none, .none, .none, .ref 1218, .int (1798) 0, .int (594) 0, .str "/claim/cut.py" 1799], #[]⟩
noncomputable def o803 (P : Params) : Obj := ⟨.type "function", none, .func ⟨"on", "Grow.on", (fA (iC 68 2)), (.stmts (fB (iC 68 2))), (fS (iC 68 2)), 3, [], .none, .none, .none, .str "heldfloods.deeds" 1160, none, .ref 1219, .none, 0⟩, #[]⟩
noncomputable def o804 (P : Params) : Obj := ⟨.type "tuple", none, .seq #[.str "self" 1804] 0, #[]⟩
noncomputable def o805 (P : Params) : Obj := ⟨.none, none, .func ⟨"__invert__", "Grow.__invert__", (fA (iC 68 3)), (.stmts (fB (iC 68 3))), (fS (iC 18 13)), 0, [], .none, .none, .none, .none, none, .none, .none, 0⟩, #[]⟩
noncomputable def o806 (P : Params) : Obj := ⟨.type "code", none, .fields #[.str "__invert__" 1801, .str "Grow.__invert__" 1802, .str "/claim/cut.py" 1803, .int (602) 0, .int (1) 0, .int (0) 0, .int (0) 0, .int (3) 0, .ref 1221, .bool true, .int (181) 0, .ref 1222, .none, .ref 1223, .ref 1224, .ref 1225, .int (1805) 0, .int (602) 0, .str "/claim/cut.py" 1806], #[]⟩
noncomputable def o807 (P : Params) : Obj := ⟨.type "function", none, .func ⟨"__invert__", "Grow.__invert__", (fA (iC 68 3)), (.stmts (fB (iC 68 3))), (fS (iC 18 13)), 3, [], .none, .none, .none, .str "heldfloods.deeds" 1160, none, .ref 1226, .none, 0⟩, #[]⟩
noncomputable def o808 (P : Params) : Obj := ⟨.type "tuple", none, .seq #[.str "self" 1811] 0, #[]⟩
noncomputable def o809 (P : Params) : Obj := ⟨.none, none, .func ⟨"__str__", "Grow.__str__", (fA (iC 68 4)), (.stmts (fB (iC 68 4))), (fS (iC 18 13)), 0, [], .none, .none, .none, .none, none, .none, .none, 0⟩, #[]⟩
noncomputable def o810 (P : Params) : Obj := ⟨.type "code", none, .fields #[.str "__str__" 1808, .str "Grow.__str__" 1809, .str "/claim/cut.py" 1810, .int (605) 0, .int (1) 0, .int (0) 0, .int (0) 0, .int (3) 0, .ref 1228, .bool true, .int (181) 0, .ref 1229, .none, .ref 1230, .ref 1231, .ref 1232, .int (1812) 0, .int (605) 0, .str "/claim/cut.py" 1813], #[]⟩
noncomputable def o811 (P : Params) : Obj := ⟨.type "function", none, .func ⟨"__str__", "Grow.__str__", (fA (iC 68 4)), (.stmts (fB (iC 68 4))), (fS (iC 18 13)), 3, [], .none, .none, .none, .str "heldfloods.deeds" 1160, none, .ref 1233, .none, 0⟩, #[]⟩
noncomputable def o812 (P : Params) : Obj := ⟨.type "dict", none, .dict #[en P "__module__" 1779 (.str "heldfloods.deeds" 1160), en P "__firstlineno__" 1783 (.int (588) 1782), en P "KIND" 1785 (.str "grow" 1784), en P "__init__" 1794 (.ref 1215), en P "on" 1800 (.ref 1220), en P "__invert__" 1807 (.ref 1227), en P "__str__" 1814 (.ref 1234), en P "__static_attributes__" 1815 (.ref 1235), en P "__doc__" 1817 (.none)] 3, #[]⟩
noncomputable def o813 (P : Params) : Obj := ⟨.type "type", none, .cls ⟨"Grow", [.ref 874], [.ref 1237, .ref 874, .ref 778, .type "object"], 1236, "Grow", true, [], [], false, none, false⟩, #[some (.ref 1200), none, some (.str "Grow" 1772), some (.str "Grow" 1780), some (.builtin "object.__new__"), some (.bool true)]⟩
noncomputable def o814 (P : Params) : Obj := ⟨.type "super", none, .fields #[.ref 1237, .ref 1237, .ref 1237], #[]⟩
noncomputable def o815 (P : Params) : Obj := ⟨.type "builtin_function_or_method", none, .fields #[.builtin "object.__init_subclass__", .ref 1237], #[]⟩
noncomputable def o816 (P : Params) : Obj := ⟨.none, none, .func ⟨"lines_of", "lines_of", (fA (tS 69)), (.stmts (fB (tS 69))), (fS (tS 69)), 0, [], .none, .none, .none, .none, none, .none, .none, 0⟩, #[]⟩
noncomputable def o817 (P : Params) : Obj := ⟨.type "code", none, .fields #[.str "lines_of" 1820, .str "lines_of" 1821, .str "/claim/cut.py" 1822, .int (607) 0, .int (1) 0, .int (0) 0, .int (0) 0, .int (3) 0, .ref 1240, .bool true, .int (181) 0, .ref 1241, .none, .none, .none, .ref 1242, .int (1823) 0, .int (607) 0, .str "/claim/cut.py" 1824], #[]⟩
noncomputable def o818 (P : Params) : Obj := ⟨.type "function", none, .func ⟨"lines_of", "lines_of", (fA (tS 69)), (.stmts (fB (tS 69))), (fS (tS 69)), 3, [], .none, .none, .none, .str "heldfloods.deeds" 1160, none, .ref 1243, .none, 0⟩, #[]⟩
noncomputable def o819 (P : Params) : Obj := ⟨.type "tuple", none, .seq #[.ref 910] 0, #[]⟩
noncomputable def o820 (P : Params) : Obj := ⟨.type "dict", none, .dict #[en P "__module__" 1833 (.str "heldfloods.deeds" 1160), en P "__qualname__" 1835 (.str "Again" 1834), en P "__firstlineno__" 1837 (.int (609) 1836), en P "KIND" 1839 (.str "again" 1838), en P "MOST" 1841 (.int (9) 1840), en P "__init__" 1851 (.ref 1260), en P "facts" 1860 (.ref 1268), en P "on" 1870 (.ref 1275), en P "__invert__" 1876 (.ref 1280), en P "__str__" 1884 (.ref 1287), en P "__static_attributes__" 1886 (.ref 1288), en P "__classcell__" 1887 (.ref 1248)] 12, #[]⟩
noncomputable def o821 (P : Params) : Obj := ⟨.type "cell", none, .cell (some (.ref 1290)), #[]⟩
noncomputable def o822 (P : Params) : Obj := ⟨.none, none, .fields #[.int (613) 0, .int (4) 0, .ref 1259, .int (619) 0, .int (4) 0, .ref 1267, .int (623) 0, .int (4) 0, .ref 1274, .int (628) 0, .int (4) 0, .ref 1279, .int (632) 0, .int (4) 0, .ref 1286], #[]⟩
noncomputable def o823 (P : Params) : Obj := ⟨.type "code", none, .fields #[.str "Again" 1828, .str "Again" 1829, .str "/claim/cut.py" 1830, .int (609) 0, .int (0) 0, .int (0) 0, .int (0) 0, .int (0) 0, .ref 1249, .bool false, .int (181) 0, .ref 1250, .none, .none, .none, .none, .int (1831) 0, .int (609) 0, .str "/claim/cut.py" 1832], #[]⟩
noncomputable def o824 (P : Params) : Obj := ⟨.type "frame", none, .plain, #[some (.ref 1251), some (.ref 3), some (.ref 1247), none, some (.str "heldfloods.deeds" 1160), none, some (.ref 0)]⟩
noncomputable def o825 (P : Params) : Obj := ⟨.type "tuple", none, .seq #[.ref 1248] 0, #[]⟩
noncomputable def o826 (P : Params) : Obj := ⟨.type "tuple", none, .seq #[.str "__class__" 1845] 0, #[]⟩
noncomputable def o827 (P : Params) : Obj := ⟨.type "tuple", none, .seq #[.str "self" 1846, .str "times" 1847, .str "deeds" 1848] 0, #[]⟩
noncomputable def o828 (P : Params) : Obj := ⟨.none, none, .func ⟨"__init__", "Again.__init__", (fA (iC 70 2)), (.stmts (fB (iC 70 2))), (fS (iC 70 2)), 0, [], .none, .none, .none, .none, none, .none, .none, 0⟩, #[]⟩
noncomputable def o829 (P : Params) : Obj := ⟨.type "code", none, .fields #[.str "__init__" 1842, .str "Again.__init__" 1843, .str "/claim/cut.py" 1844, .int (613) 0, .int (2) 0, .int (0) 0, .int (0) 0, .int (7) 0, .ref 1254, .bool true, .int (181) 0, .ref 1255, .none, .ref 1256, .ref 1257, .ref 1258, .int (1849) 0, .int (613) 0, .str "/claim/cut.py" 1850], #[]⟩
noncomputable def o830 (P : Params) : Obj := ⟨.type "function", none, .func ⟨"__init__", "Again.__init__", (fA (iC 70 2)), (.stmts (fB (iC 70 2))), (fS (iC 70 2)), 3, [("__class__", 1248)], .none, .none, .none, .str "heldfloods.deeds" 1160, none, .ref 1259, .ref 1253, 0⟩, #[]⟩
noncomputable def o831 (P : Params) : Obj := ⟨.type "tuple", none, .seq #[.str "__class__" 1855] 0, #[]⟩
noncomputable def o832 (P : Params) : Obj := ⟨.type "tuple", none, .seq #[.str "self" 1856, .str "rest" 1857] 0, #[]⟩
noncomputable def o833 (P : Params) : Obj := ⟨.none, none, .func ⟨"facts", "Again.facts", (fA (iC 70 3)), (.stmts (fB (iC 70 3))), (fS (iC 56 1)), 0, [], .none, .none, .none, .none, none, .none, .none, 0⟩, #[]⟩
noncomputable def o834 (P : Params) : Obj := ⟨.type "code", none, .fields #[.str "facts" 1852, .str "Again.facts" 1853, .str "/claim/cut.py" 1854, .int (619) 0, .int (1) 0, .int (0) 0, .int (0) 0, .int (3) 0, .ref 1262, .bool true, .int (181) 0, .ref 1263, .none, .ref 1264, .ref 1265, .ref 1266, .int (1858) 0, .int (619) 0, .str "/claim/cut.py" 1859], #[]⟩
noncomputable def o835 (P : Params) : Obj := ⟨.type "function", none, .func ⟨"facts", "Again.facts", (fA (iC 70 3)), (.stmts (fB (iC 70 3))), (fS (iC 56 1)), 3, [("__class__", 1248)], .none, .none, .none, .str "heldfloods.deeds" 1160, none, .ref 1267, .ref 1261, 0⟩, #[]⟩
noncomputable def o836 (P : Params) : Obj := ⟨.type "tuple", none, .seq #[.str "self" 1864, .str "canvas" 1865, .str "turn" 1866, .str "deed" 1867] 0, #[]⟩
noncomputable def o837 (P : Params) : Obj := ⟨.none, none, .func ⟨"on", "Again.on", (fA (iC 70 4)), (.stmts (fB (iC 70 4))), (fS (iC 70 4)), 0, [], .none, .none, .none, .none, none, .none, .none, 0⟩, #[]⟩
noncomputable def o838 (P : Params) : Obj := ⟨.type "code", none, .fields #[.str "on" 1861, .str "Again.on" 1862, .str "/claim/cut.py" 1863, .int (623) 0, .int (2) 0, .int (0) 0, .int (0) 0, .int (3) 0, .ref 1269, .bool true, .int (181) 0, .ref 1270, .none, .ref 1271, .ref 1272, .ref 1273, .int (1868) 0, .int (623) 0, .str "/claim/cut.py" 1869], #[]⟩
noncomputable def o839 (P : Params) : Obj := ⟨.type "function", none, .func ⟨"on", "Again.on", (fA (iC 70 4)), (.stmts (fB (iC 70 4))), (fS (iC 70 4)), 3, [], .none, .none, .none, .str "heldfloods.deeds" 1160, none, .ref 1274, .none, 0⟩, #[]⟩
noncomputable def o840 (P : Params) : Obj := ⟨.none, none, .func ⟨"__invert__", "Again.__invert__", (fA (iC 70 5)), (.stmts (fB (iC 70 5))), (fS (iC 70 5)), 0, [], .none, .none, .none, .none, none, .none, .none, 0⟩, #[]⟩
noncomputable def o841 (P : Params) : Obj := ⟨.type "code", none, .fields #[.str "__invert__" 1871, .str "Again.__invert__" 1872, .str "/claim/cut.py" 1873, .int (628) 0, .int (1) 0, .int (0) 0, .int (0) 0, .int (3) 0, .ref 1276, .bool true, .int (181) 0, .ref 1277, .none, .none, .none, .ref 1278, .int (1874) 0, .int (628) 0, .str "/claim/cut.py" 1875], #[]⟩
noncomputable def o842 (P : Params) : Obj := ⟨.type "function", none, .func ⟨"__invert__", "Again.__invert__", (fA (iC 70 5)), (.stmts (fB (iC 70 5))), (fS (iC 70 5)), 3, [], .none, .none, .none, .str "heldfloods.deeds" 1160, none, .ref 1279, .none, 0⟩, #[]⟩
noncomputable def o843 (P : Params) : Obj := ⟨.type "tuple", none, .seq #[.str "self" 1880, .str "lines" 1881] 0, #[]⟩
noncomputable def o844 (P : Params) : Obj := ⟨.none, none, .func ⟨"__str__", "Again.__str__", (fA (iC 70 6)), (.stmts (fB (iC 70 6))), (fS (iC 70 6)), 0, [], .none, .none, .none, .none, none, .none, .none, 0⟩, #[]⟩
noncomputable def o845 (P : Params) : Obj := ⟨.type "code", none, .fields #[.str "__str__" 1877, .str "Again.__str__" 1878, .str "/claim/cut.py" 1879, .int (632) 0, .int (1) 0, .int (0) 0, .int (0) 0, .int (3) 0, .ref 1281, .bool true, .int (181) 0, .ref 1282, .none, .ref 1283, .ref 1284, .ref 1285, .int (1882) 0, .int (632) 0, .str "/claim/cut.py" 1883], #[]⟩
noncomputable def o846 (P : Params) : Obj := ⟨.type "function", none, .func ⟨"__str__", "Again.__str__", (fA (iC 70 6)), (.stmts (fB (iC 70 6))), (fS (iC 70 6)), 3, [], .none, .none, .none, .str "heldfloods.deeds" 1160, none, .ref 1286, .none, 0⟩, #[]⟩
noncomputable def o847 (P : Params) : Obj := ⟨.type "tuple", none, .seq #[.str "times" 1885] 0, #[]⟩
noncomputable def o848 (P : Params) : Obj := ⟨.type "dict", none, .dict #[en P "__module__" 1833 (.str "heldfloods.deeds" 1160), en P "__firstlineno__" 1837 (.int (609) 1836), en P "KIND" 1839 (.str "again" 1838), en P "MOST" 1841 (.int (9) 1840), en P "__init__" 1851 (.ref 1260), en P "facts" 1860 (.ref 1268), en P "on" 1870 (.ref 1275), en P "__invert__" 1876 (.ref 1280), en P "__str__" 1884 (.ref 1287), en P "__static_attributes__" 1886 (.ref 1288), en P "__doc__" 1888 (.none)] 3, #[]⟩
noncomputable def o849 (P : Params) : Obj := ⟨.type "type", none, .cls ⟨"Again", [.ref 910], [.ref 1290, .ref 910, .ref 778, .type "object"], 1289, "Again", true, [], [], false, none, false⟩, #[some (.ref 1245), none, some (.str "Again" 1826), some (.str "Again" 1834), some (.builtin "object.__new__"), some (.bool true)]⟩
noncomputable def o850 (P : Params) : Obj := ⟨.type "super", none, .fields #[.ref 1290, .ref 1290, .ref 1290], #[]⟩
noncomputable def o851 (P : Params) : Obj := ⟨.type "builtin_function_or_method", none, .fields #[.builtin "object.__init_subclass__", .ref 1290], #[]⟩
noncomputable def o852 (P : Params) : Obj := ⟨.type "tuple", none, .seq #[.ref 845, .ref 874, .ref 910] 0, #[]⟩
noncomputable def o853 (P : Params) : Obj := ⟨.type "dict", none, .dict #[en P "__module__" 1898 (.str "heldfloods.deeds" 1160), en P "__qualname__" 1900 (.str "When" 1899), en P "__firstlineno__" 1902 (.int (635) 1901), en P "KIND" 1904 (.str "when" 1903), en P "__init__" 1917 (.ref 1310), en P "facts" 1926 (.ref 1318), en P "each" 1936 (.ref 1326), en P "on" 1948 (.ref 1333), en P "__invert__" 1954 (.ref 1338), en P "__str__" 1964 (.ref 1345), en P "__static_attributes__" 1966 (.ref 1346), en P "__classcell__" 1967 (.ref 1296)] 12, #[]⟩
noncomputable def o854 (P : Params) : Obj := ⟨.type "cell", none, .cell (some (.ref 1348)), #[]⟩
noncomputable def o855 (P : Params) : Obj := ⟨.none, none, .fields #[.int (638) 0, .int (4) 0, .ref 1309, .int (643) 0, .int (4) 0, .ref 1317, .int (647) 0, .int (4) 0, .ref 1325, .int (654) 0, .int (4) 0, .ref 1332, .int (660) 0, .int (4) 0, .ref 1337, .int (664) 0, .int (4) 0, .ref 1344], #[]⟩
noncomputable def o856 (P : Params) : Obj := ⟨.type "code", none, .fields #[.str "When" 1893, .str "When" 1894, .str "/claim/cut.py" 1895, .int (635) 0, .int (0) 0, .int (0) 0, .int (0) 0, .int (0) 0, .ref 1297, .bool false, .int (181) 0, .ref 1298, .none, .none, .none, .none, .int (1896) 0, .int (635) 0, .str "/claim/cut.py" 1897], #[]⟩
noncomputable def o857 (P : Params) : Obj := ⟨.type "frame", none, .plain, #[some (.ref 1299), some (.ref 3), some (.ref 1295), none, some (.str "heldfloods.deeds" 1160), none, some (.ref 0)]⟩
noncomputable def o858 (P : Params) : Obj := ⟨.type "tuple", none, .seq #[.ref 1301] 0, #[]⟩
noncomputable def o859 (P : Params) : Obj := ⟨.type "tuple", none, .seq #[.ref 1296] 0, #[]⟩
noncomputable def o860 (P : Params) : Obj := ⟨.type "tuple", none, .seq #[.str "__class__" 1908] 0, #[]⟩
noncomputable def o861 (P : Params) : Obj := ⟨.type "tuple", none, .seq #[.str "self" 1909, .str "x" 1910, .str "y" 1911, .str "colour" 1912, .str "deeds" 1913, .str "others" 1914] 0, #[]⟩
noncomputable def o862 (P : Params) : Obj := ⟨.none, none, .func ⟨"__init__", "When.__init__", (fA (iC 71 1)), (.stmts (fB (iC 71 1))), (fS (iC 71 1)), 0, [], .none, .none, .none, .none, none, .none, .none, 0⟩, #[]⟩
noncomputable def o863 (P : Params) : Obj := ⟨.type "code", none, .fields #[.str "__init__" 1905, .str "When.__init__" 1906, .str "/claim/cut.py" 1907, .int (638) 0, .int (6) 0, .int (0) 0, .int (0) 0, .int (3) 0, .ref 1304, .bool true, .int (181) 0, .ref 1305, .none, .ref 1306, .ref 1307, .ref 1308, .int (1915) 0, .int (638) 0, .str "/claim/cut.py" 1916], #[]⟩
noncomputable def o864 (P : Params) : Obj := ⟨.type "function", none, .func ⟨"__init__", "When.__init__", (fA (iC 71 1)), (.stmts (fB (iC 71 1))), (fS (iC 71 1)), 3, [("__class__", 1296)], .ref 1302, .none, .none, .str "heldfloods.deeds" 1160, none, .ref 1309, .ref 1303, 0⟩, #[]⟩
noncomputable def o865 (P : Params) : Obj := ⟨.type "tuple", none, .seq #[.str "__class__" 1921] 0, #[]⟩
noncomputable def o866 (P : Params) : Obj := ⟨.type "tuple", none, .seq #[.str "self" 1922, .str "rest" 1923] 0, #[]⟩
noncomputable def o867 (P : Params) : Obj := ⟨.none, none, .func ⟨"facts", "When.facts", (fA (iC 71 2)), (.stmts (fB (iC 71 2))), (fS (iC 59 1)), 0, [], .none, .none, .none, .none, none, .none, .none, 0⟩, #[]⟩
noncomputable def o868 (P : Params) : Obj := ⟨.type "code", none, .fields #[.str "facts" 1918, .str "When.facts" 1919, .str "/claim/cut.py" 1920, .int (643) 0, .int (1) 0, .int (0) 0, .int (0) 0, .int (3) 0, .ref 1312, .bool true, .int (181) 0, .ref 1313, .none, .ref 1314, .ref 1315, .ref 1316, .int (1924) 0, .int (643) 0, .str "/claim/cut.py" 1925], #[]⟩
noncomputable def o869 (P : Params) : Obj := ⟨.type "function", none, .func ⟨"facts", "When.facts", (fA (iC 71 2)), (.stmts (fB (iC 71 2))), (fS (iC 59 1)), 3, [("__class__", 1296)], .none, .none, .none, .str "heldfloods.deeds" 1160, none, .ref 1317, .ref 1311, 0⟩, #[]⟩
noncomputable def o870 (P : Params) : Obj := ⟨.type "tuple", none, .seq #[.str "__class__" 1930] 0, #[]⟩
noncomputable def o871 (P : Params) : Obj := ⟨.type "tuple", none, .seq #[.str "self" 1931, .str "one" 1932, .str "deed" 1933] 0, #[]⟩
noncomputable def o872 (P : Params) : Obj := ⟨.none, none, .func ⟨"each", "When.each", (fA (iC 71 3)), (.stmts (fB (iC 71 3))), (fS (iC 71 3)), 0, [], .none, .none, .none, .none, none, .none, .none, 0⟩, #[]⟩
noncomputable def o873 (P : Params) : Obj := ⟨.type "code", none, .fields #[.str "each" 1927, .str "When.each" 1928, .str "/claim/cut.py" 1929, .int (647) 0, .int (1) 0, .int (0) 0, .int (0) 0, .int (35) 0, .ref 1320, .bool true, .int (181) 0, .ref 1321, .none, .ref 1322, .ref 1323, .ref 1324, .int (1934) 0, .int (647) 0, .str "/claim/cut.py" 1935], #[]⟩
noncomputable def o874 (P : Params) : Obj := ⟨.type "function", none, .func ⟨"each", "When.each", (fA (iC 71 3)), (.stmts (fB (iC 71 3))), (fS (iC 71 3)), 3, [("__class__", 1296)], .none, .none, .none, .str "heldfloods.deeds" 1160, none, .ref 1325, .ref 1319, 0⟩, #[]⟩
noncomputable def o875 (P : Params) : Obj := ⟨.type "tuple", none, .seq #[.str "self" 1940, .str "canvas" 1941, .str "x" 1942, .str "y" 1943, .str "is_met" 1944, .str "deed" 1945] 0, #[]⟩
noncomputable def o876 (P : Params) : Obj := ⟨.none, none, .func ⟨"on", "When.on", (fA (iC 71 4)), (.stmts (fB (iC 71 4))), (fS (iC 71 4)), 0, [], .none, .none, .none, .none, none, .none, .none, 0⟩, #[]⟩
noncomputable def o877 (P : Params) : Obj := ⟨.type "code", none, .fields #[.str "on" 1937, .str "When.on" 1938, .str "/claim/cut.py" 1939, .int (654) 0, .int (2) 0, .int (0) 0, .int (0) 0, .int (3) 0, .ref 1327, .bool true, .int (181) 0, .ref 1328, .none, .ref 1329, .ref 1330, .ref 1331, .int (1946) 0, .int (654) 0, .str "/claim/cut.py" 1947], #[]⟩
noncomputable def o878 (P : Params) : Obj := ⟨.type "function", none, .func ⟨"on", "When.on", (fA (iC 71 4)), (.stmts (fB (iC 71 4))), (fS (iC 71 4)), 3, [], .none, .none, .none, .str "heldfloods.deeds" 1160, none, .ref 1332, .none, 0⟩, #[]⟩
noncomputable def o879 (P : Params) : Obj := ⟨.none, none, .func ⟨"__invert__", "When.__invert__", (fA (iC 71 5)), (.stmts (fB (iC 71 5))), (fS (iC 71 5)), 0, [], .none, .none, .none, .none, none, .none, .none, 0⟩, #[]⟩
noncomputable def o880 (P : Params) : Obj := ⟨.type "code", none, .fields #[.str "__invert__" 1949, .str "When.__invert__" 1950, .str "/claim/cut.py" 1951, .int (660) 0, .int (1) 0, .int (0) 0, .int (0) 0, .int (3) 0, .ref 1334, .bool true, .int (181) 0, .ref 1335, .none, .none, .none, .ref 1336, .int (1952) 0, .int (660) 0, .str "/claim/cut.py" 1953], #[]⟩
noncomputable def o881 (P : Params) : Obj := ⟨.type "function", none, .func ⟨"__invert__", "When.__invert__", (fA (iC 71 5)), (.stmts (fB (iC 71 5))), (fS (iC 71 5)), 3, [], .none, .none, .none, .str "heldfloods.deeds" 1160, none, .ref 1337, .none, 0⟩, #[]⟩
noncomputable def o882 (P : Params) : Obj := ⟨.type "tuple", none, .seq #[.str "self" 1958, .str "first" 1959, .str "lines" 1960, .str "others" 1961] 0, #[]⟩
noncomputable def o883 (P : Params) : Obj := ⟨.none, none, .func ⟨"__str__", "When.__str__", (fA (iC 71 6)), (.stmts (fB (iC 71 6))), (fS (iC 71 6)), 0, [], .none, .none, .none, .none, none, .none, .none, 0⟩, #[]⟩
noncomputable def o884 (P : Params) : Obj := ⟨.type "code", none, .fields #[.str "__str__" 1955, .str "When.__str__" 1956, .str "/claim/cut.py" 1957, .int (664) 0, .int (1) 0, .int (0) 0, .int (0) 0, .int (3) 0, .ref 1339, .bool true, .int (181) 0, .ref 1340, .none, .ref 1341, .ref 1342, .ref 1343, .int (1962) 0, .int (664) 0, .str "/claim/cut.py" 1963], #[]⟩
noncomputable def o885 (P : Params) : Obj := ⟨.type "function", none, .func ⟨"__str__", "When.__str__", (fA (iC 71 6)), (.stmts (fB (iC 71 6))), (fS (iC 71 6)), 3, [], .none, .none, .none, .str "heldfloods.deeds" 1160, none, .ref 1344, .none, 0⟩, #[]⟩
noncomputable def o886 (P : Params) : Obj := ⟨.type "tuple", none, .seq #[.str "others" 1965] 0, #[]⟩
noncomputable def o887 (P : Params) : Obj := ⟨.type "dict", none, .dict #[en P "__module__" 1898 (.str "heldfloods.deeds" 1160), en P "__firstlineno__" 1902 (.int (635) 1901), en P "KIND" 1904 (.str "when" 1903), en P "__init__" 1917 (.ref 1310), en P "facts" 1926 (.ref 1318), en P "each" 1936 (.ref 1326), en P "on" 1948 (.ref 1333), en P "__invert__" 1954 (.ref 1338), en P "__str__" 1964 (.ref 1345), en P "__static_attributes__" 1966 (.ref 1346), en P "__doc__" 1968 (.none)] 3, #[]⟩
noncomputable def o888 (P : Params) : Obj := ⟨.type "type", none, .cls ⟨"When", [.ref 845, .ref 874, .ref 910], [.ref 1348, .ref 845, .ref 874, .ref 910, .ref 778, .type "object"], 1347, "When", true, [], [], false, none, false⟩, #[some (.ref 1293), none, some (.str "When" 1891), some (.str "When" 1899), some (.builtin "object.__new__"), some (.bool true)]⟩
noncomputable def o889 (P : Params) : Obj := ⟨.type "super", none, .fields #[.ref 1348, .ref 1348, .ref 1348], #[]⟩
noncomputable def o890 (P : Params) : Obj := ⟨.type "builtin_function_or_method", none, .fields #[.builtin "object.__init_subclass__", .ref 1348], #[]⟩
noncomputable def o891 (P : Params) : Obj := ⟨.type "dict", none, .dict #[en P "__module__" 1980 (.str "heldfloods.canvases" 1971), en P "__qualname__" 1982 (.str "Canvas" 1981), en P "__firstlineno__" 1984 (.int (671) 1983), en P "MOST" 1986 (.int (200) 1985), en P "__init__" 1995 (.ref 1364), en P "picture" 2002 (.ref 1371), en P "shown" 2010 (.ref 1388), en P "need_like" 2028 (.ref 1395), en P "show" 2036 (.ref 1402), en P "fill" 2052 (.ref 1409), en P "flood" 2058 (.ref 1414), en P "trial" 2065 (.ref 1421), en P "tried" 2073 (.ref 1428), en P "__getitem__" 2083 (.ref 1435), en P "__setitem__" 2095 (.ref 1442), en P "__iter__" 2102 (.ref 1449), en P "__ior__" 2108 (.ref 1454), en P "__eq__" 2116 (.ref 1461), en P "__static_attributes__" 2120 (.ref 1462)] 19, #[]⟩
noncomputable def o892 (P : Params) : Obj := ⟨.none, none, .fields #[.int (674) 0, .int (4) 0, .ref 1363, .int (680) 0, .int (4) 0, .ref 1370, .int (684) 0, .int (4) 0, .ref 1377, .int (688) 0, .int (4) 0, .ref 1386, .int (691) 0, .int (4) 0, .ref 1394, .int (695) 0, .int (4) 0, .ref 1401, .int (699) 0, .int (4) 0, .ref 1408, .int (708) 0, .int (4) 0, .ref 1413, .int (719) 0, .int (4) 0, .ref 1420, .int (722) 0, .int (4) 0, .ref 1427, .int (725) 0, .int (4) 0, .ref 1434, .int (730) 0, .int (4) 0, .ref 1441, .int (738) 0, .int (4) 0, .ref 1448, .int (741) 0, .int (4) 0, .ref 1453, .int (746) 0, .int (4) 0, .ref 1460], #[]⟩
noncomputable def o893 (P : Params) : Obj := ⟨.type "code", none, .fields #[.str "Canvas" 1975, .str "Canvas" 1976, .str "/claim/cut.py" 1977, .int (671) 0, .int (0) 0, .int (0) 0, .int (0) 0, .int (0) 0, .ref 1354, .bool false, .int (181) 0, .ref 1355, .none, .none, .none, .none, .int (1978) 0, .int (671) 0, .str "/claim/cut.py" 1979], #[]⟩
noncomputable def o894 (P : Params) : Obj := ⟨.type "frame", none, .plain, #[some (.ref 1356), some (.ref 3), some (.ref 1353), none, some (.str "heldfloods.canvases" 1971), none, some (.ref 0)]⟩
noncomputable def o895 (P : Params) : Obj := ⟨.type "tuple", none, .seq #[.str "self" 1990, .str "width" 1991, .str "height" 1992] 0, #[]⟩
noncomputable def o896 (P : Params) : Obj := ⟨.none, none, .func ⟨"__init__", "Canvas.__init__", (fA (iC 73 1)), (.stmts (fB (iC 73 1))), (fS (iC 73 1)), 0, [], .none, .none, .none, .none, none, .none, .none, 0⟩, #[]⟩
noncomputable def o897 (P : Params) : Obj := ⟨.type "code", none, .fields #[.str "__init__" 1987, .str "Canvas.__init__" 1988, .str "/claim/cut.py" 1989, .int (674) 0, .int (3) 0, .int (0) 0, .int (0) 0, .int (3) 0, .ref 1358, .bool true, .int (181) 0, .ref 1359, .none, .ref 1360, .ref 1361, .ref 1362, .int (1993) 0, .int (674) 0, .str "/claim/cut.py" 1994], #[]⟩
noncomputable def o898 (P : Params) : Obj := ⟨.type "function", none, .func ⟨"__init__", "Canvas.__init__", (fA (iC 73 1)), (.stmts (fB (iC 73 1))), (fS (iC 73 1)), 3, [], .none, .none, .none, .str "heldfloods.canvases" 1971, none, .ref 1363, .none, 0⟩, #[]⟩
noncomputable def o899 (P : Params) : Obj := ⟨.type "tuple", none, .seq #[.str "self" 1999] 0, #[]⟩
noncomputable def o900 (P : Params) : Obj := ⟨.none, none, .func ⟨"picture", "Canvas.picture", (fA (iC 73 2)), (.stmts (fB (iC 73 2))), (fS (iC 73 2)), 0, [], .none, .none, .none, .none, none, .none, .none, 0⟩, #[]⟩
noncomputable def o901 (P : Params) : Obj := ⟨.type "code", none, .fields #[.str "picture" 1996, .str "Canvas.picture" 1997, .str "/claim/cut.py" 1998, .int (680) 0, .int (1) 0, .int (0) 0, .int (0) 0, .int (3) 0, .ref 1365, .bool true, .int (181) 0, .ref 1366, .none, .ref 1367, .ref 1368, .ref 1369, .int (2000) 0, .int (680) 0, .str "/claim/cut.py" 2001], #[]⟩
noncomputable def o902 (P : Params) : Obj := ⟨.type "function", none, .func ⟨"picture", "Canvas.picture", (fA (iC 73 2)), (.stmts (fB (iC 73 2))), (fS (iC 73 2)), 3, [], .none, .none, .none, .str "heldfloods.canvases" 1971, none, .ref 1370, .none, 0⟩, #[]⟩
noncomputable def o903 (P : Params) : Obj := ⟨.type "tuple", none, .seq #[.str "self" 2006] 0, #[]⟩
noncomputable def o904 (P : Params) : Obj := ⟨.none, none, .func ⟨"shown", "Canvas.shown", (fA (iC 73 3)), (.stmts (fB (iC 73 3))), (fS (iC 73 2)), 0, [], .none, .none, .none, .none, none, .none, .none, 0⟩, #[]⟩
noncomputable def o905 (P : Params) : Obj := ⟨.type "code", none, .fields #[.str "shown" 2003, .str "Canvas.shown" 2004, .str "/claim/cut.py" 2005, .int (683) 0, .int (1) 0, .int (0) 0, .int (0) 0, .int (3) 0, .ref 1372, .bool true, .int (181) 0, .ref 1373, .none, .ref 1374, .ref 1375, .ref 1376, .int (2007) 0, .int (683) 0, .str "/claim/cut.py" 2008], #[]⟩
noncomputable def o906 (P : Params) : Obj := ⟨.type "function", none, .func ⟨"shown", "Canvas.shown", (fA (iC 73 3)), (.stmts (fB (iC 73 3))), (fS (iC 73 2)), 3, [], .none, .none, .none, .str "heldfloods.canvases" 1971, none, .ref 1377, .none, 0⟩, #[]⟩
noncomputable def o907 (P : Params) : Obj := ⟨.type "property", none, .fields #[.ref 1378, .none, .none, .none, .int (0) 0, .bool false], #[]⟩
noncomputable def o908 (P : Params) : Obj := ⟨.type "builtin_function_or_method", none, .fields #[.builtin "property.setter", .ref 1379], #[]⟩
noncomputable def o909 (P : Params) : Obj := ⟨.type "tuple", none, .seq #[.str "self" 2015, .str "value" 2016] 0, #[]⟩
noncomputable def o910 (P : Params) : Obj := ⟨.none, none, .func ⟨"shown", "Canvas.shown", (fA (iC 73 4)), (.stmts (fB (iC 73 4))), (fS (iC 73 4)), 0, [], .none, .none, .none, .none, none, .none, .none, 0⟩, #[]⟩
noncomputable def o911 (P : Params) : Obj := ⟨.type "code", none, .fields #[.str "shown" 2012, .str "Canvas.shown" 2013, .str "/claim/cut.py" 2014, .int (687) 0, .int (2) 0, .int (0) 0, .int (0) 0, .int (3) 0, .ref 1381, .bool true, .int (181) 0, .ref 1382, .none, .ref 1383, .ref 1384, .ref 1385, .int (2017) 0, .int (687) 0, .str "/claim/cut.py" 2018], #[]⟩
noncomputable def o912 (P : Params) : Obj := ⟨.type "function", none, .func ⟨"shown", "Canvas.shown", (fA (iC 73 4)), (.stmts (fB (iC 73 4))), (fS (iC 73 4)), 3, [], .none, .none, .none, .str "heldfloods.canvases" 1971, none, .ref 1386, .none, 0⟩, #[]⟩
noncomputable def o913 (P : Params) : Obj := ⟨.type "property", none, .fields #[.ref 1378, .ref 1387, .none, .none, .str "shown" 2010, .bool false], #[]⟩
noncomputable def o914 (P : Params) : Obj := ⟨.type "tuple", none, .seq #[.str "self" 2024, .str "picture" 2025] 0, #[]⟩
noncomputable def o915 (P : Params) : Obj := ⟨.none, none, .func ⟨"need_like", "Canvas.need_like", (fA (iC 73 5)), (.stmts (fB (iC 73 5))), (fS (iC 73 5)), 0, [], .none, .none, .none, .none, none, .none, .none, 0⟩, #[]⟩
noncomputable def o916 (P : Params) : Obj := ⟨.type "code", none, .fields #[.str "need_like" 2021, .str "Canvas.need_like" 2022, .str "/claim/cut.py" 2023, .int (691) 0, .int (2) 0, .int (0) 0, .int (0) 0, .int (3) 0, .ref 1389, .bool true, .int (181) 0, .ref 1390, .none, .ref 1391, .ref 1392, .ref 1393, .int (2026) 0, .int (691) 0, .str "/claim/cut.py" 2027], #[]⟩
noncomputable def o917 (P : Params) : Obj := ⟨.type "function", none, .func ⟨"need_like", "Canvas.need_like", (fA (iC 73 5)), (.stmts (fB (iC 73 5))), (fS (iC 73 5)), 3, [], .none, .none, .none, .str "heldfloods.canvases" 1971, none, .ref 1394, .none, 0⟩, #[]⟩
noncomputable def o918 (P : Params) : Obj := ⟨.type "tuple", none, .seq #[.str "self" 2032, .str "picture" 2033] 0, #[]⟩
noncomputable def o919 (P : Params) : Obj := ⟨.none, none, .func ⟨"show", "Canvas.show", (fA (iC 73 6)), (.stmts (fB (iC 73 6))), (fS (iC 73 6)), 0, [], .none, .none, .none, .none, none, .none, .none, 0⟩, #[]⟩
noncomputable def o920 (P : Params) : Obj := ⟨.type "code", none, .fields #[.str "show" 2029, .str "Canvas.show" 2030, .str "/claim/cut.py" 2031, .int (695) 0, .int (2) 0, .int (0) 0, .int (0) 0, .int (3) 0, .ref 1396, .bool true, .int (181) 0, .ref 1397, .none, .ref 1398, .ref 1399, .ref 1400, .int (2034) 0, .int (695) 0, .str "/claim/cut.py" 2035], #[]⟩
noncomputable def o921 (P : Params) : Obj := ⟨.type "function", none, .func ⟨"show", "Canvas.show", (fA (iC 73 6)), (.stmts (fB (iC 73 6))), (fS (iC 73 6)), 3, [], .none, .none, .none, .str "heldfloods.canvases" 1971, none, .ref 1401, .none, 0⟩, #[]⟩
noncomputable def o922 (P : Params) : Obj := ⟨.type "tuple", none, .seq #[.str "self" 2040, .str "x0" 2041, .str "x1" 2042, .str "y0" 2043, .str "y1" 2044, .str "colour" 2045, .str "low" 2046, .str "high" 2047, .str "lines" 2048, .str "y" 2049] 0, #[]⟩
noncomputable def o923 (P : Params) : Obj := ⟨.none, none, .func ⟨"fill", "Canvas.fill", (fA (iC 73 7)), (.stmts (fB (iC 73 7))), (fS (iC 73 7)), 0, [], .none, .none, .none, .none, none, .none, .none, 0⟩, #[]⟩
noncomputable def o924 (P : Params) : Obj := ⟨.type "code", none, .fields #[.str "fill" 2037, .str "Canvas.fill" 2038, .str "/claim/cut.py" 2039, .int (699) 0, .int (6) 0, .int (0) 0, .int (0) 0, .int (3) 0, .ref 1403, .bool true, .int (181) 0, .ref 1404, .none, .ref 1405, .ref 1406, .ref 1407, .int (2050) 0, .int (699) 0, .str "/claim/cut.py" 2051], #[]⟩
noncomputable def o925 (P : Params) : Obj := ⟨.type "function", none, .func ⟨"fill", "Canvas.fill", (fA (iC 73 7)), (.stmts (fB (iC 73 7))), (fS (iC 73 7)), 3, [], .none, .none, .none, .str "heldfloods.canvases" 1971, none, .ref 1408, .none, 0⟩, #[]⟩
noncomputable def o926 (P : Params) : Obj := ⟨.none, none, .func ⟨"flood", "Canvas.flood", (fA (iC 73 8)), (.stmts (fB (iC 73 8))), (fS (iC 73 8)), 0, [], .none, .none, .none, .none, none, .none, .none, 0⟩, #[]⟩
noncomputable def o927 (P : Params) : Obj := ⟨.type "code", none, .fields #[.str "flood" 2053, .str "Canvas.flood" 2054, .str "/claim/cut.py" 2055, .int (708) 0, .int (4) 0, .int (0) 0, .int (0) 0, .int (3) 0, .ref 1410, .bool true, .int (181) 0, .ref 1411, .none, .none, .none, .ref 1412, .int (2056) 0, .int (708) 0, .str "/claim/cut.py" 2057], #[]⟩
noncomputable def o928 (P : Params) : Obj := ⟨.type "function", none, .func ⟨"flood", "Canvas.flood", (fA (iC 73 8)), (.stmts (fB (iC 73 8))), (fS (iC 73 8)), 3, [], .none, .none, .none, .str "heldfloods.canvases" 1971, none, .ref 1413, .none, 0⟩, #[]⟩
noncomputable def o929 (P : Params) : Obj := ⟨.type "tuple", none, .seq #[.str "self" 2062] 0, #[]⟩
noncomputable def o930 (P : Params) : Obj := ⟨.none, none, .func ⟨"trial", "Canvas.trial", (fA (iC 73 9)), (.stmts (fB (iC 73 9))), (fS (iC 73 9)), 0, [], .none, .none, .none, .none, none, .none, .none, 0⟩, #[]⟩
noncomputable def o931 (P : Params) : Obj := ⟨.type "code", none, .fields #[.str "trial" 2059, .str "Canvas.trial" 2060, .str "/claim/cut.py" 2061, .int (719) 0, .int (1) 0, .int (0) 0, .int (0) 0, .int (3) 0, .ref 1415, .bool true, .int (181) 0, .ref 1416, .none, .ref 1417, .ref 1418, .ref 1419, .int (2063) 0, .int (719) 0, .str "/claim/cut.py" 2064], #[]⟩
noncomputable def o932 (P : Params) : Obj := ⟨.type "function", none, .func ⟨"trial", "Canvas.trial", (fA (iC 73 9)), (.stmts (fB (iC 73 9))), (fS (iC 73 9)), 3, [], .none, .none, .none, .str "heldfloods.canvases" 1971, none, .ref 1420, .none, 0⟩, #[]⟩
noncomputable def o933 (P : Params) : Obj := ⟨.type "tuple", none, .seq #[.str "self" 2069, .str "work" 2070] 0, #[]⟩
noncomputable def o934 (P : Params) : Obj := ⟨.none, none, .func ⟨"tried", "Canvas.tried", (fA (iC 73 10)), (.stmts (fB (iC 73 10))), (fS (iC 73 10)), 0, [], .none, .none, .none, .none, none, .none, .none, 0⟩, #[]⟩
noncomputable def o935 (P : Params) : Obj := ⟨.type "code", none, .fields #[.str "tried" 2066, .str "Canvas.tried" 2067, .str "/claim/cut.py" 2068, .int (722) 0, .int (2) 0, .int (0) 0, .int (0) 0, .int (3) 0, .ref 1422, .bool true, .int (181) 0, .ref 1423, .none, .ref 1424, .ref 1425, .ref 1426, .int (2071) 0, .int (722) 0, .str "/claim/cut.py" 2072], #[]⟩
noncomputable def o936 (P : Params) : Obj := ⟨.type "function", none, .func ⟨"tried", "Canvas.tried", (fA (iC 73 10)), (.stmts (fB (iC 73 10))), (fS (iC 73 10)), 3, [], .none, .none, .none, .str "heldfloods.canvases" 1971, none, .ref 1427, .none, 0⟩, #[]⟩
noncomputable def o937 (P : Params) : Obj := ⟨.type "tuple", none, .seq #[.str "self" 2077, .str "at" 2078, .str "x" 2079, .str "y" 2080] 0, #[]⟩
noncomputable def o938 (P : Params) : Obj := ⟨.none, none, .func ⟨"__getitem__", "Canvas.__getitem__", (fA (iC 73 11)), (.stmts (fB (iC 73 11))), (fS (iC 52 9)), 0, [], .none, .none, .none, .none, none, .none, .none, 0⟩, #[]⟩
noncomputable def o939 (P : Params) : Obj := ⟨.type "code", none, .fields #[.str "__getitem__" 2074, .str "Canvas.__getitem__" 2075, .str "/claim/cut.py" 2076, .int (725) 0, .int (2) 0, .int (0) 0, .int (0) 0, .int (3) 0, .ref 1429, .bool true, .int (181) 0, .ref 1430, .none, .ref 1431, .ref 1432, .ref 1433, .int (2081) 0, .int (725) 0, .str "/claim/cut.py" 2082], #[]⟩
noncomputable def o940 (P : Params) : Obj := ⟨.type "function", none, .func ⟨"__getitem__", "Canvas.__getitem__", (fA (iC 73 11)), (.stmts (fB (iC 73 11))), (fS (iC 52 9)), 3, [], .none, .none, .none, .str "heldfloods.canvases" 1971, none, .ref 1434, .none, 0⟩, #[]⟩
noncomputable def o941 (P : Params) : Obj := ⟨.type "tuple", none, .seq #[.str "self" 2087, .str "at" 2088, .str "worth" 2089, .str "x" 2090, .str "y" 2091, .str "lines" 2092] 0, #[]⟩
noncomputable def o942 (P : Params) : Obj := ⟨.none, none, .func ⟨"__setitem__", "Canvas.__setitem__", (fA (iC 73 12)), (.stmts (fB (iC 73 12))), (fS (iC 73 12)), 0, [], .none, .none, .none, .none, none, .none, .none, 0⟩, #[]⟩
noncomputable def o943 (P : Params) : Obj := ⟨.type "code", none, .fields #[.str "__setitem__" 2084, .str "Canvas.__setitem__" 2085, .str "/claim/cut.py" 2086, .int (730) 0, .int (3) 0, .int (0) 0, .int (0) 0, .int (3) 0, .ref 1436, .bool true, .int (181) 0, .ref 1437, .none, .ref 1438, .ref 1439, .ref 1440, .int (2093) 0, .int (730) 0, .str "/claim/cut.py" 2094], #[]⟩
noncomputable def o944 (P : Params) : Obj := ⟨.type "function", none, .func ⟨"__setitem__", "Canvas.__setitem__", (fA (iC 73 12)), (.stmts (fB (iC 73 12))), (fS (iC 73 12)), 3, [], .none, .none, .none, .str "heldfloods.canvases" 1971, none, .ref 1441, .none, 0⟩, #[]⟩
noncomputable def o945 (P : Params) : Obj := ⟨.type "tuple", none, .seq #[.str "self" 2099] 0, #[]⟩
noncomputable def o946 (P : Params) : Obj := ⟨.none, none, .func ⟨"__iter__", "Canvas.__iter__", (fA (iC 73 13)), (.stmts (fB (iC 73 13))), (fS (iC 52 10)), 0, [], .none, .none, .none, .none, none, .none, .none, 0⟩, #[]⟩
noncomputable def o947 (P : Params) : Obj := ⟨.type "code", none, .fields #[.str "__iter__" 2096, .str "Canvas.__iter__" 2097, .str "/claim/cut.py" 2098, .int (738) 0, .int (1) 0, .int (0) 0, .int (0) 0, .int (3) 0, .ref 1443, .bool true, .int (181) 0, .ref 1444, .none, .ref 1445, .ref 1446, .ref 1447, .int (2100) 0, .int (738) 0, .str "/claim/cut.py" 2101], #[]⟩
noncomputable def o948 (P : Params) : Obj := ⟨.type "function", none, .func ⟨"__iter__", "Canvas.__iter__", (fA (iC 73 13)), (.stmts (fB (iC 73 13))), (fS (iC 52 10)), 3, [], .none, .none, .none, .str "heldfloods.canvases" 1971, none, .ref 1448, .none, 0⟩, #[]⟩
noncomputable def o949 (P : Params) : Obj := ⟨.none, none, .func ⟨"__ior__", "Canvas.__ior__", (fA (iC 73 14)), (.stmts (fB (iC 73 14))), (fS (iC 73 14)), 0, [], .none, .none, .none, .none, none, .none, .none, 0⟩, #[]⟩
noncomputable def o950 (P : Params) : Obj := ⟨.type "code", none, .fields #[.str "__ior__" 2103, .str "Canvas.__ior__" 2104, .str "/claim/cut.py" 2105, .int (741) 0, .int (2) 0, .int (0) 0, .int (0) 0, .int (3) 0, .ref 1450, .bool true, .int (181) 0, .ref 1451, .none, .none, .none, .ref 1452, .int (2106) 0, .int (741) 0, .str "/claim/cut.py" 2107], #[]⟩
noncomputable def o951 (P : Params) : Obj := ⟨.type "function", none, .func ⟨"__ior__", "Canvas.__ior__", (fA (iC 73 14)), (.stmts (fB (iC 73 14))), (fS (iC 73 14)), 3, [], .none, .none, .none, .str "heldfloods.canvases" 1971, none, .ref 1453, .none, 0⟩, #[]⟩
noncomputable def o952 (P : Params) : Obj := ⟨.type "tuple", none, .seq #[.str "self" 2112, .str "other" 2113] 0, #[]⟩
noncomputable def o953 (P : Params) : Obj := ⟨.none, none, .func ⟨"__eq__", "Canvas.__eq__", (fA (iC 73 15)), (.stmts (fB (iC 73 15))), (fS (iC 73 15)), 0, [], .none, .none, .none, .none, none, .none, .none, 0⟩, #[]⟩
noncomputable def o954 (P : Params) : Obj := ⟨.type "code", none, .fields #[.str "__eq__" 2109, .str "Canvas.__eq__" 2110, .str "/claim/cut.py" 2111, .int (746) 0, .int (2) 0, .int (0) 0, .int (0) 0, .int (3) 0, .ref 1455, .bool true, .int (181) 0, .ref 1456, .none, .ref 1457, .ref 1458, .ref 1459, .int (2114) 0, .int (746) 0, .str "/claim/cut.py" 2115], #[]⟩
noncomputable def o955 (P : Params) : Obj := ⟨.type "function", none, .func ⟨"__eq__", "Canvas.__eq__", (fA (iC 73 15)), (.stmts (fB (iC 73 15))), (fS (iC 73 15)), 3, [], .none, .none, .none, .str "heldfloods.canvases" 1971, none, .ref 1460, .none, 0⟩, #[]⟩
noncomputable def o956 (P : Params) : Obj := ⟨.type "tuple", none, .seq #[.str "height" 2117, .str "lines" 2118, .str "width" 2119] 0, #[]⟩
noncomputable def o957 (P : Params) : Obj := ⟨.type "dict", none, .dict #[en P "__module__" 1980 (.str "heldfloods.canvases" 1971), en P "__firstlineno__" 1984 (.int (671) 1983), en P "MOST" 1986 (.int (200) 1985), en P "__init__" 1995 (.ref 1364), en P "picture" 2002 (.ref 1371), en P "shown" 2010 (.ref 1388), en P "need_like" 2028 (.ref 1395), en P "show" 2036 (.ref 1402), en P "fill" 2052 (.ref 1409), en P "flood" 2058 (.ref 1414), en P "trial" 2065 (.ref 1421), en P "tried" 2073 (.ref 1428), en P "__getitem__" 2083 (.ref 1435), en P "__setitem__" 2095 (.ref 1442), en P "__iter__" 2102 (.ref 1449), en P "__ior__" 2108 (.ref 1454), en P "__eq__" 2116 (.ref 1461), en P "__static_attributes__" 2120 (.ref 1462), en P "__dict__" 2122 (.ref 1465), en P "__weakref__" 2124 (.ref 1466), en P "__doc__" 2125 (.none), en P "__hash__" 2126 (.none)] 5, #[]⟩
noncomputable def o958 (P : Params) : Obj := ⟨.type "type", none, .cls ⟨"Canvas", [.type "object"], [.ref 1464, .type "object"], 1463, "Canvas", true, [], [], false, none, false⟩, #[none, none, some (.str "Canvas" 1973), some (.str "Canvas" 1981), some (.builtin "object.__new__"), some (.bool true)]⟩
noncomputable def o959 (P : Params) : Obj := ⟨.type "getset_descriptor", none, .fields #[.str "__dict__" 2121, .ref 1464, .builtin "function.__dict__", .builtin "function.__dict__#set"], #[]⟩
noncomputable def o960 (P : Params) : Obj := ⟨.type "getset_descriptor", none, .fields #[.str "__weakref__" 2123, .ref 1464, .builtin "ExceptionGroup.__weakref__", .none], #[]⟩
noncomputable def o961 (P : Params) : Obj := ⟨.type "super", none, .fields #[.ref 1464, .ref 1464, .ref 1464], #[]⟩
noncomputable def o962 (P : Params) : Obj := ⟨.type "builtin_function_or_method", none, .fields #[.builtin "object.__init_subclass__", .ref 1464], #[]⟩
noncomputable def tree1 (P : Params) : BT := (nd (o0 P) (nd (o1 P) (nd (o3 P) (nd (o7 P) (nd (o7 P) (nd (o24 P) (nd (o49 P) (nd (o98 P) (nd (o7 P) (nd (o339 P) .nil .nil) .nil) (nd (o264 P) .nil .nil)) (nd (o146 P) (nd (o222 P) .nil .nil) (nd (o8 P) .nil .nil))) (nd (o74 P) (nd (o123 P) (nd (o7 P) (nd (o8 P) .nil .nil) .nil) (nd (o7 P) .nil .nil)) (nd (o8 P) (nd (o7 P) .nil .nil) (nd (o321 P) .nil .nil)))) (nd (o7 P) (nd (o61 P) (nd (o110 P) (nd (o195 P) (nd (o349 P) .nil .nil) .nil) (nd (o19 P) .nil .nil)) (nd (o157 P) (nd (o232 P) .nil .nil) (nd (o311 P) .nil .nil))) (nd (o85 P) (nd (o134 P) (nd (o213 P) (nd (o367 P) .nil .nil) .nil) (nd (o6 P) .nil .nil)) (nd (o176 P) (nd (o7 P) .nil .nil) (nd (o7 P) .nil .nil))))) (nd (o19 P) (nd (o7 P) (nd (o55 P) (nd (o104 P) (nd (o190 P) (nd (o344 P) .nil .nil) .nil) (nd (o7 P) .nil .nil)) (nd (o152 P) (nd (o227 P) .nil .nil) (nd (o304 P) .nil .nil))) (nd (o79 P) (nd (o128 P) (nd (o8 P) (nd (o362 P) .nil .nil) .nil) (nd (o8 P) .nil .nil)) (nd (o171 P) (nd (o7 P) .nil .nil) (nd (o326 P) .nil .nil)))) (nd (o44 P) (nd (o8 P) (nd (o116 P) (nd (o200 P) (nd (o7 P) .nil .nil) .nil) (nd (o277 P) .nil .nil)) (nd (o7 P) (nd (o7 P) .nil .nil) (nd (o316 P) .nil .nil))) (nd (o28 P) (nd (o19 P) (nd (o7 P) .nil .nil) (nd (o7 P) .nil .nil)) (nd (o181 P) (nd (o8 P) .nil .nil) (nd (o8 P) .nil .nil)))))) (nd (o7 P) (nd (o15 P) (nd (o28 P) (nd (o52 P) (nd (o7 P) (nd (o7 P) (nd (o8 P) .nil .nil) .nil) (nd (o7 P) .nil .nil)) (nd (o148 P) (nd (o8 P) .nil .nil) (nd (o302 P) .nil .nil))) (nd (o19 P) (nd (o125 P) (nd (o206 P) (nd (o360 P) .nil .nil) .nil) (nd (o284 P) .nil .nil)) (nd (o169 P) (nd (o246 P) .nil .nil) (nd (o323 P) .nil .nil)))) (nd (o40 P) (nd (o64 P) (nd (o113 P) (nd (o197 P) (nd (o7 P) .nil .nil) .nil) (nd (o275 P) .nil .nil)) (nd (o8 P) (nd (o236 P) .nil .nil) (nd (o7 P) .nil .nil))) (nd (o89 P) (nd (o137 P) (nd (o216 P) (nd (o369 P) .nil .nil) .nil) (nd (o7 P) .nil .nil)) (nd (o179 P) (nd (o256 P) .nil .nil) (nd (o332 P) .nil .nil))))) (nd (o21 P) (nd (o34 P) (nd (o59 P) (nd (o108 P) (nd (o8 P) (nd (o346 P) .nil .nil) .nil) (nd (o270 P) .nil .nil)) (nd (o7 P) (nd (o229 P) .nil .nil) (nd (o307 P) .nil .nil))) (nd (o83 P) (nd (o8 P) (nd (o211 P) (nd (o8 P) .nil .nil) .nil) (nd (o288 P) .nil .nil)) (nd (o174 P) (nd (o251 P) .nil .nil) (nd (o7 P) .nil .nil)))) (nd (o46 P) (nd (o70 P) (nd (o119 P) (nd (o7 P) (nd (o355 P) .nil .nil) .nil) (nd (o280 P) .nil .nil)) (nd (o164 P) (nd (o241 P) .nil .nil) (nd (o8 P) .nil .nil))) (nd (o7 P) (nd (o142 P) (nd (o7 P) .nil .nil) (nd (o297 P) .nil .nil)) (nd (o6 P) (nd (o7 P) .nil .nil) (nd (o337 P) .nil .nil))))))) (nd (o5 P) (nd (o9 P) (nd (o14 P) (nd (o26 P) (nd (o51 P) (nd (o8 P) (nd (o187 P) (nd (o341 P) .nil .nil) .nil) (nd (o8 P) .nil .nil)) (nd (o147 P) (nd (o224 P) .nil .nil) (nd (o7 P) .nil .nil))) (nd (o76 P) (nd (o28 P) (nd (o205 P) (nd (o7 P) .nil .nil) .nil) (nd (o282 P) .nil .nil)) (nd (o7 P) (nd (o245 P) .nil .nil) (nd (o7 P) .nil .nil)))) (nd (o38 P) (nd (o7 P) (nd (o111 P) (nd (o7 P) (nd (o8 P) .nil .nil) .nil) (nd (o7 P) .nil .nil)) (nd (o159 P) (nd (o234 P) .nil .nil) (nd (o313 P) .nil .nil))) (nd (o87 P) (nd (o7 P) (nd (o214 P) (nd (o7 P) .nil .nil) .nil) (nd (o8 P) .nil .nil)) (nd (o177 P) (nd (o255 P) .nil .nil) (nd (o331 P) .nil .nil))))) (nd (o7 P) (nd (o32 P) (nd (o57 P) (nd (o106 P) (nd (o192 P) (nd (o7 P) .nil .nil) .nil) (nd (o269 P) .nil .nil)) (nd (o154 P) (nd (o7 P) .nil .nil) (nd (o305 P) .nil .nil))) (nd (o81 P) (nd (o130 P) (nd (o7 P) (nd (o364 P) .nil .nil) .nil) (nd (o7 P) .nil .nil)) (nd (o172 P) (nd (o250 P) .nil .nil) (nd (o8 P) .nil .nil)))) (nd (o19 P) (nd (o7 P) (nd (o117 P) (nd (o8 P) (nd (o354 P) .nil .nil) .nil) (nd (o278 P) .nil .nil)) (nd (o163 P) (nd (o240 P) .nil .nil) (nd (o318 P) .nil .nil))) (nd (o93 P) (nd (o141 P) (nd (o219 P) .nil .nil) (nd (o296 P) .nil .nil)) (nd (o183 P) (nd (o260 P) .nil .nil) (nd (o7 P) .nil .nil)))))) (nd (o12 P) (nd (o17 P) (nd (o29 P) (nd (o53 P) (nd (o102 P) (nd (o189 P) (nd (o7 P) .nil .nil) .nil) (nd (o267 P) .nil .nil)) (nd (o150 P) (nd (o7 P) .nil .nil) (nd (o7 P) .nil .nil))) (nd (o78 P) (nd (o7 P) (nd (o208 P) (nd (o7 P) .nil .nil) .nil) (nd (o6 P) .nil .nil)) (nd (o7 P) (nd (o248 P) .nil .nil) (nd (o324 P) .nil .nil)))) (nd (o42 P) (nd (o66 P) (nd (o115 P) (nd (o198 P) (nd (o352 P) .nil .nil) .nil) (nd (o7 P) .nil .nil)) (nd (o161 P) (nd (o238 P) .nil .nil) (nd (o315 P) .nil .nil))) (nd (o91 P) (nd (o139 P) (nd (o8 P) (nd (o371 P) .nil .nil) .nil) (nd (o294 P) .nil .nil)) (nd (o8 P) (nd (o258 P) .nil .nil) (nd (o334 P) .nil .nil))))) (nd (o7 P) (nd (o8 P) (nd (o28 P) (nd (o19 P) (nd (o7 P) (nd (o347 P) .nil .nil) .nil) (nd (o272 P) .nil .nil)) (nd (o156 P) (nd (o230 P) .nil .nil) (nd (o309 P) .nil .nil))) (nd (o84 P) (nd (o7 P) (nd (o7 P) (nd (o7 P) .nil .nil) .nil) (nd (o290 P) .nil .nil)) (nd (o7 P) (nd (o253 P) .nil .nil) (nd (o329 P) .nil .nil)))) (nd (o47 P) (nd (o72 P) (nd (o121 P) (nd (o203 P) (nd (o357 P) .nil .nil) .nil) (nd (o8 P) .nil .nil)) (nd (o166 P) (nd (o243 P) .nil .nil) (nd (o7 P) .nil .nil))) (nd (o96 P) (nd (o144 P) (nd (o221 P) .nil .nil) (nd (o299 P) .nil .nil)) (nd (o8 P) (nd (o262 P) .nil .nil) (nd (o7 P) .nil .nil)))))))) (nd (o2 P) (nd (o4 P) (nd (o8 P) (nd (o8 P) (nd (o25 P) (nd (o50 P) (nd (o99 P) (nd (o186 P) (nd (o340 P) .nil .nil) .nil) (nd (o7 P) .nil .nil)) (nd (o8 P) (nd (o223 P) .nil .nil) (nd (o300 P) .nil .nil))) (nd (o75 P) (nd (o124 P) (nd (o8 P) (nd (o358 P) .nil .nil) .nil) (nd (o281 P) .nil .nil)) (nd (o167 P) (nd (o8 P) .nil .nil) (nd (o322 P) .nil .nil)))) (nd (o37 P) (nd (o62 P) (nd (o7 P) (nd (o196 P) (nd (o7 P) .nil .nil) .nil) (nd (o273 P) .nil .nil)) (nd (o158 P) (nd (o233 P) .nil .nil) (nd (o312 P) .nil .nil))) (nd (o86 P) (nd (o135 P) (nd (o7 P) (nd (o368 P) .nil .nil) .nil) (nd (o7 P) .nil .nil)) (nd (o7 P) (nd (o8 P) .nil .nil) (nd (o8 P) .nil .nil))))) (nd (o20 P) (nd (o31 P) (nd (o56 P) (nd (o105 P) (nd (o191 P) (nd (o345 P) .nil .nil) .nil) (nd (o8 P) .nil .nil)) (nd (o153 P) (nd (o228 P) .nil .nil) (nd (o7 P) .nil .nil))) (nd (o80 P) (nd (o129 P) (nd (o209 P) (nd (o363 P) .nil .nil) .nil) (nd (o286 P) .nil .nil)) (nd (o7 P) (nd (o8 P) .nil .nil) (nd (o7 P) .nil .nil)))) (nd (o28 P) (nd (o68 P) (nd (o7 P) (nd (o7 P) (nd (o8 P) .nil .nil) .nil) (nd (o7 P) .nil .nil)) (nd (o8 P) (nd (o8 P) .nil .nil) (nd (o317 P) .nil .nil))) (nd (o19 P) (nd (o140 P) (nd (o218 P) .nil .nil) (nd (o8 P) .nil .nil)) (nd (o182 P) (nd (o259 P) .nil .nil) (nd (o335 P) .nil .nil)))))) (nd (o11 P) (nd (o16 P) (nd (o19 P) (nd (o7 P) (nd (o101 P) (nd (o8 P) (nd (o342 P) .nil .nil) .nil) (nd (o266 P) .nil .nil)) (nd (o149 P) (nd (o225 P) .nil .nil) (nd (o303 P) .nil .nil))) (nd (o77 P) (nd (o126 P) (nd (o207 P) (nd (o361 P) .nil .nil) .nil) (nd (o285 P) .nil .nil)) (nd (o170 P) (nd (o247 P) .nil .nil) (nd (o7 P) .nil .nil)))) (nd (o41 P) (nd (o65 P) (nd (o114 P) (nd (o7 P) (nd (o351 P) .nil .nil) .nil) (nd (o276 P) .nil .nil)) (nd (o160 P) (nd (o237 P) .nil .nil) (nd (o8 P) .nil .nil))) (nd (o90 P) (nd (o138 P) (nd (o7 P) (nd (o370 P) .nil .nil) .nil) (nd (o293 P) .nil .nil)) (nd (o7 P) (nd (o257 P) .nil .nil) (nd (o333 P) .nil .nil))))) (nd (o22 P) (nd (o35 P) (nd (o60 P) (nd (o28 P) (nd (o193 P) (nd (o7 P) .nil .nil) .nil) (nd (o271 P) .nil .nil)) (nd (o8 P) (nd (o7 P) .nil .nil) (nd (o308 P) .nil .nil))) (nd (o8 P) (nd (o132 P) (nd (o212 P) (nd (o365 P) .nil .nil) .nil) (nd (o289 P) .nil .nil)) (nd (o175 P) (nd (o252 P) .nil .nil) (nd (o328 P) .nil .nil)))) (nd (o7 P) (nd (o71 P) (nd (o120 P) (nd (o202 P) (nd (o356 P) .nil .nil) .nil) (nd (o7 P) .nil .nil)) (nd (o165 P) (nd (o242 P) .nil .nil) (nd (o319 P) .nil .nil))) (nd (o95 P) (nd (o143 P) (nd (o8 P) .nil .nil) (nd (o298 P) .nil .nil)) (nd (o7 P) (nd (o8 P) .nil .nil) (nd (o338 P) .nil .nil))))))) (nd (o6 P) (nd (o10 P) (nd (o7 P) (nd (o27 P) (nd (o8 P) (nd (o100 P) (nd (o188 P) (nd (o7 P) .nil .nil) .nil) (nd (o265 P) .nil .nil)) (nd (o7 P) (nd (o7 P) .nil .nil) (nd (o301 P) .nil .nil))) (nd (o28 P) (nd (o19 P) (nd (o7 P) (nd (o359 P) .nil .nil) .nil) (nd (o283 P) .nil .nil)) (nd (o168 P) (nd (o7 P) .nil .nil) (nd (o8 P) .nil .nil)))) (nd (o39 P) (nd (o63 P) (nd (o112 P) (nd (o8 P) (nd (o350 P) .nil .nil) .nil) (nd (o274 P) .nil .nil)) (nd (o7 P) (nd (o235 P) .nil .nil) (nd (o314 P) .nil .nil))) (nd (o88 P) (nd (o136 P) (nd (o215 P) (nd (o8 P) .nil .nil) .nil) (nd (o292 P) .nil .nil)) (nd (o178 P) (nd (o7 P) .nil .nil) (nd (o7 P) .nil .nil))))) (nd (o8 P) (nd (o33 P) (nd (o58 P) (nd (o107 P) (nd (o7 P) (nd (o8 P) .nil .nil) .nil) (nd (o7 P) .nil .nil)) (nd (o155 P) (nd (o8 P) .nil .nil) (nd (o306 P) .nil .nil))) (nd (o82 P) (nd (o131 P) (nd (o210 P) (nd (o7 P) .nil .nil) .nil) (nd (o287 P) .nil .nil)) (nd (o173 P) (nd (o7 P) .nil .nil) (nd (o327 P) .nil .nil)))) (nd (o45 P) (nd (o69 P) (nd (o118 P) (nd (o201 P) (nd (o7 P) .nil .nil) .nil) (nd (o279 P) .nil .nil)) (nd (o7 P) (nd (o7 P) .nil .nil) (nd (o7 P) .nil .nil))) (nd (o94 P) (nd (o7 P) (nd (o220 P) .nil .nil) (nd (o7 P) .nil .nil)) (nd (o184 P) (nd (o261 P) .nil .nil) (nd (o336 P) .nil .nil)))))) (nd (o13 P) (nd (o18 P) (nd (o30 P) (nd (o54 P) (nd (o103 P) (nd (o7 P) (nd (o343 P) .nil .nil) .nil) (nd (o268 P) .nil .nil)) (nd (o151 P) (nd (o226 P) .nil .nil) (nd (o8 P) .nil .nil))) (nd (o7 P) (nd (o127 P) (nd (o7 P) (nd (o8 P) .nil .nil) .nil) (nd (o7 P) .nil .nil)) (nd (o19 P) (nd (o249 P) .nil .nil) (nd (o325 P) .nil .nil)))) (nd (o43 P) (nd (o67 P) (nd (o8 P) (nd (o199 P) (nd (o353 P) .nil .nil) .nil) (nd (o8 P) .nil .nil)) (nd (o162 P) (nd (o239 P) .nil .nil) (nd (o7 P) .nil .nil))) (nd (o92 P) (nd (o28 P) (nd (o217 P) .nil .nil) (nd (o295 P) .nil .nil)) (nd (o180 P) (nd (o7 P) .nil .nil) (nd (o7 P) .nil .nil))))) (nd (o23 P) (nd (o36 P) (nd (o19 P) (nd (o109 P) (nd (o194 P) (nd (o348 P) .nil .nil) .nil) (nd (o7 P) .nil .nil)) (nd (o7 P) (nd (o231 P) .nil .nil) (nd (o310 P) .nil .nil))) (nd (o7 P) (nd (o133 P) (nd (o8 P) (nd (o366 P) .nil .nil) .nil) (nd (o291 P) .nil .nil)) (nd (o8 P) (nd (o254 P) .nil .nil) (nd (o330 P) .nil .nil)))) (nd (o48 P) (nd (o73 P) (nd (o122 P) (nd (o204 P) (nd (o7 P) .nil .nil) .nil) (nd (o7 P) .nil .nil)) (nd (o7 P) (nd (o244 P) .nil .nil) (nd (o320 P) .nil .nil))) (nd (o97 P) (nd (o145 P) (nd (o7 P) .nil .nil) (nd (o7 P) .nil .nil)) (nd (o185 P) (nd (o263 P) .nil .nil) (nd (o8 P) .nil .nil)))))))))
noncomputable def tree2 (P : Params) : BT := (nd (o0 P) (nd (o1 P) (nd (o372 P) (nd (o7 P) (nd (o7 P) (nd (o24 P) (nd (o49 P) (nd (o98 P) (nd (o7 P) (nd (o339 P) (nd (o8 P) .nil .nil) .nil) (nd (o494 P) (nd (o841 P) .nil .nil) .nil)) (nd (o264 P) (nd (o416 P) (nd (o756 P) .nil .nil) .nil) (nd (o8 P) (nd (o923 P) .nil .nil) .nil))) (nd (o146 P) (nd (o222 P) (nd (o379 P) (nd (o715 P) .nil .nil) .nil) (nd (o541 P) (nd (o883 P) .nil .nil) .nil)) (nd (o8 P) (nd (o454 P) (nd (o800 P) .nil .nil) .nil) (nd (o7 P) .nil .nil)))) (nd (o74 P) (nd (o123 P) (nd (o7 P) (nd (o8 P) (nd (o695 P) .nil .nil) .nil) (nd (o513 P) (nd (o859 P) .nil .nil) .nil)) (nd (o7 P) (nd (o7 P) (nd (o7 P) .nil .nil) .nil) (nd (o610 P) (nd (o7 P) .nil .nil) .nil))) (nd (o8 P) (nd (o7 P) (nd (o8 P) (nd (o736 P) .nil .nil) .nil) (nd (o564 P) (nd (o7 P) .nil .nil) .nil)) (nd (o321 P) (nd (o19 P) (nd (o820 P) .nil .nil) .nil) (nd (o650 P) .nil .nil))))) (nd (o7 P) (nd (o61 P) (nd (o110 P) (nd (o195 P) (nd (o349 P) (nd (o7 P) .nil .nil) .nil) (nd (o507 P) (nd (o853 P) .nil .nil) .nil)) (nd (o19 P) (nd (o426 P) (nd (o767 P) .nil .nil) .nil) (nd (o598 P) (nd (o8 P) .nil .nil) .nil))) (nd (o157 P) (nd (o232 P) (nd (o7 P) (nd (o726 P) .nil .nil) .nil) (nd (o553 P) (nd (o8 P) .nil .nil) .nil)) (nd (o311 P) (nd (o463 P) (nd (o7 P) .nil .nil) .nil) (nd (o641 P) .nil .nil)))) (nd (o85 P) (nd (o134 P) (nd (o213 P) (nd (o367 P) (nd (o7 P) .nil .nil) .nil) (nd (o530 P) (nd (o7 P) .nil .nil) .nil)) (nd (o6 P) (nd (o444 P) (nd (o788 P) .nil .nil) .nil) (nd (o7 P) (nd (o7 P) .nil .nil) .nil))) (nd (o176 P) (nd (o7 P) (nd (o7 P) (nd (o746 P) .nil .nil) .nil) (nd (o575 P) (nd (o914 P) .nil .nil) .nil)) (nd (o7 P) (nd (o7 P) (nd (o8 P) .nil .nil) .nil) (nd (o19 P) .nil .nil)))))) (nd (o19 P) (nd (o7 P) (nd (o55 P) (nd (o104 P) (nd (o190 P) (nd (o344 P) (nd (o678 P) .nil .nil) .nil) (nd (o499 P) (nd (o846 P) .nil .nil) .nil)) (nd (o7 P) (nd (o421 P) (nd (o762 P) .nil .nil) .nil) (nd (o591 P) (nd (o7 P) .nil .nil) .nil))) (nd (o152 P) (nd (o227 P) (nd (o383 P) (nd (o720 P) .nil .nil) .nil) (nd (o7 P) (nd (o7 P) .nil .nil) .nil)) (nd (o304 P) (nd (o8 P) (nd (o804 P) .nil .nil) .nil) (nd (o636 P) .nil .nil)))) (nd (o79 P) (nd (o128 P) (nd (o8 P) (nd (o362 P) (nd (o701 P) .nil .nil) .nil) (nd (o524 P) (nd (o859 P) .nil .nil) .nil)) (nd (o8 P) (nd (o440 P) (nd (o782 P) .nil .nil) .nil) (nd (o615 P) (nd (o946 P) .nil .nil) .nil))) (nd (o171 P) (nd (o7 P) (nd (o6 P) (nd (o7 P) .nil .nil) .nil) (nd (o569 P) (nd (o909 P) .nil .nil) .nil)) (nd (o326 P) (nd (o480 P) (nd (o8 P) .nil .nil) .nil) (nd (o655 P) .nil .nil))))) (nd (o44 P) (nd (o8 P) (nd (o116 P) (nd (o200 P) (nd (o7 P) (nd (o689 P) .nil .nil) .nil) (nd (o513 P) (nd (o859 P) .nil .nil) .nil)) (nd (o277 P) (nd (o7 P) (nd (o772 P) .nil .nil) .nil) (nd (o604 P) (nd (o937 P) .nil .nil) .nil))) (nd (o7 P) (nd (o7 P) (nd (o7 P) (nd (o731 P) .nil .nil) .nil) (nd (o558 P) (nd (o899 P) .nil .nil) .nil)) (nd (o316 P) (nd (o471 P) (nd (o815 P) .nil .nil) .nil) (nd (o7 P) .nil .nil)))) (nd (o28 P) (nd (o19 P) (nd (o7 P) (nd (o8 P) (nd (o8 P) .nil .nil) .nil) (nd (o536 P) (nd (o8 P) .nil .nil) .nil)) (nd (o7 P) (nd (o7 P) (nd (o794 P) .nil .nil) .nil) (nd (o624 P) (nd (o957 P) .nil .nil) .nil))) (nd (o181 P) (nd (o8 P) (nd (o7 P) (nd (o751 P) .nil .nil) .nil) (nd (o8 P) (nd (o7 P) .nil .nil) .nil)) (nd (o8 P) (nd (o489 P) (nd (o836 P) .nil .nil) .nil) (nd (o669 P) .nil .nil))))))) (nd (o7 P) (nd (o15 P) (nd (o28 P) (nd (o52 P) (nd (o7 P) (nd (o7 P) (nd (o8 P) (nd (o676 P) .nil .nil) .nil) (nd (o496 P) (nd (o843 P) .nil .nil) .nil)) (nd (o7 P) (nd (o8 P) (nd (o760 P) .nil .nil) .nil) (nd (o589 P) (nd (o8 P) .nil .nil) .nil))) (nd (o148 P) (nd (o8 P) (nd (o381 P) (nd (o19 P) .nil .nil) .nil) (nd (o544 P) (nd (o887 P) .nil .nil) .nil)) (nd (o302 P) (nd (o456 P) (nd (o802 P) .nil .nil) .nil) (nd (o633 P) .nil .nil)))) (nd (o19 P) (nd (o125 P) (nd (o206 P) (nd (o360 P) (nd (o698 P) .nil .nil) .nil) (nd (o7 P) (nd (o7 P) .nil .nil) .nil)) (nd (o284 P) (nd (o7 P) (nd (o778 P) .nil .nil) .nil) (nd (o612 P) (nd (o7 P) .nil .nil) .nil))) (nd (o169 P) (nd (o246 P) (nd (o400 P) (nd (o7 P) .nil .nil) .nil) (nd (o566 P) (nd (o907 P) .nil .nil) .nil)) (nd (o323 P) (nd (o478 P) (nd (o823 P) .nil .nil) .nil) (nd (o8 P) .nil .nil))))) (nd (o40 P) (nd (o64 P) (nd (o113 P) (nd (o197 P) (nd (o7 P) (nd (o7 P) .nil .nil) .nil) (nd (o7 P) (nd (o856 P) .nil .nil) .nil)) (nd (o275 P) (nd (o7 P) (nd (o769 P) .nil .nil) .nil) (nd (o601 P) (nd (o935 P) .nil .nil) .nil))) (nd (o8 P) (nd (o236 P) (nd (o391 P) (nd (o8 P) .nil .nil) .nil) (nd (o555 P) (nd (o897 P) .nil .nil) .nil)) (nd (o7 P) (nd (o467 P) (nd (o7 P) .nil .nil) .nil) (nd (o644 P) .nil .nil)))) (nd (o89 P) (nd (o137 P) (nd (o216 P) (nd (o369 P) (nd (o707 P) .nil .nil) .nil) (nd (o533 P) (nd (o876 P) .nil .nil) .nil)) (nd (o7 P) (nd (o8 P) (nd (o791 P) .nil .nil) .nil) (nd (o621 P) (nd (o953 P) .nil .nil) .nil))) (nd (o179 P) (nd (o256 P) (nd (o410 P) (nd (o7 P) .nil .nil) .nil) (nd (o578 P) (nd (o917 P) .nil .nil) .nil)) (nd (o332 P) (nd (o7 P) (nd (o834 P) .nil .nil) .nil) (nd (o665 P) .nil .nil)))))) (nd (o21 P) (nd (o34 P) (nd (o59 P) (nd (o108 P) (nd (o8 P) (nd (o346 P) (nd (o681 P) .nil .nil) .nil) (nd (o503 P) (nd (o850 P) .nil .nil) .nil)) (nd (o270 P) (nd (o423 P) (nd (o8 P) .nil .nil) .nil) (nd (o594 P) (nd (o930 P) .nil .nil) .nil))) (nd (o7 P) (nd (o229 P) (nd (o386 P) (nd (o724 P) .nil .nil) .nil) (nd (o549 P) (nd (o892 P) .nil .nil) .nil)) (nd (o307 P) (nd (o7 P) (nd (o807 P) .nil .nil) .nil) (nd (o639 P) .nil .nil)))) (nd (o83 P) (nd (o8 P) (nd (o211 P) (nd (o8 P) (nd (o7 P) .nil .nil) .nil) (nd (o528 P) (nd (o7 P) .nil .nil) .nil)) (nd (o288 P) (nd (o442 P) (nd (o7 P) .nil .nil) .nil) (nd (o7 P) (nd (o8 P) .nil .nil) .nil))) (nd (o174 P) (nd (o251 P) (nd (o7 P) (nd (o742 P) .nil .nil) .nil) (nd (o573 P) (nd (o912 P) .nil .nil) .nil)) (nd (o7 P) (nd (o483 P) (nd (o829 P) .nil .nil) .nil) (nd (o659 P) .nil .nil))))) (nd (o46 P) (nd (o70 P) (nd (o119 P) (nd (o7 P) (nd (o355 P) (nd (o692 P) .nil .nil) .nil) (nd (o7 P) (nd (o7 P) .nil .nil) .nil)) (nd (o280 P) (nd (o433 P) (nd (o7 P) .nil .nil) .nil) (nd (o8 P) (nd (o940 P) .nil .nil) .nil))) (nd (o164 P) (nd (o241 P) (nd (o396 P) (nd (o733 P) .nil .nil) .nil) (nd (o561 P) (nd (o902 P) .nil .nil) .nil)) (nd (o8 P) (nd (o473 P) (nd (o817 P) .nil .nil) .nil) (nd (o7 P) .nil .nil)))) (nd (o7 P) (nd (o142 P) (nd (o7 P) (nd (o7 P) (nd (o712 P) .nil .nil) .nil) (nd (o539 P) (nd (o7 P) .nil .nil) .nil)) (nd (o297 P) (nd (o452 P) (nd (o797 P) .nil .nil) .nil) (nd (o600 P) (nd (o961 P) .nil .nil) .nil))) (nd (o6 P) (nd (o7 P) (nd (o7 P) (nd (o19 P) .nil .nil) .nil) (nd (o584 P) (nd (o7 P) .nil .nil) .nil)) (nd (o337 P) (nd (o8 P) (nd (o839 P) .nil .nil) .nil) (nd (o671 P) .nil .nil)))))))) (nd (o5 P) (nd (o9 P) (nd (o14 P) (nd (o26 P) (nd (o51 P) (nd (o8 P) (nd (o187 P) (nd (o341 P) (nd (o7 P) .nil .nil) .nil) (nd (o7 P) (nd (o7 P) .nil .nil) .nil)) (nd (o8 P) (nd (o418 P) (nd (o758 P) .nil .nil) .nil) (nd (o7 P) (nd (o925 P) .nil .nil) .nil))) (nd (o147 P) (nd (o224 P) (nd (o8 P) (nd (o717 P) .nil .nil) .nil) (nd (o542 P) (nd (o885 P) .nil .nil) .nil)) (nd (o7 P) (nd (o7 P) (nd (o8 P) .nil .nil) .nil) (nd (o631 P) .nil .nil)))) (nd (o76 P) (nd (o28 P) (nd (o205 P) (nd (o7 P) (nd (o697 P) .nil .nil) .nil) (nd (o8 P) (nd (o8 P) .nil .nil) .nil)) (nd (o282 P) (nd (o436 P) (nd (o777 P) .nil .nil) .nil) (nd (o7 P) (nd (o943 P) .nil .nil) .nil))) (nd (o7 P) (nd (o245 P) (nd (o7 P) (nd (o8 P) .nil .nil) .nil) (nd (o565 P) (nd (o905 P) .nil .nil) .nil)) (nd (o7 P) (nd (o7 P) (nd (o7 P) .nil .nil) .nil) (nd (o652 P) .nil .nil))))) (nd (o38 P) (nd (o7 P) (nd (o111 P) (nd (o7 P) (nd (o8 P) (nd (o684 P) .nil .nil) .nil) (nd (o508 P) (nd (o7 P) .nil .nil) .nil)) (nd (o7 P) (nd (o8 P) (nd (o7 P) .nil .nil) .nil) (nd (o600 P) (nd (o7 P) .nil .nil) .nil))) (nd (o159 P) (nd (o234 P) (nd (o389 P) (nd (o728 P) .nil .nil) .nil) (nd (o19 P) (nd (o7 P) .nil .nil) .nil)) (nd (o313 P) (nd (o465 P) (nd (o810 P) .nil .nil) .nil) (nd (o642 P) .nil .nil)))) (nd (o87 P) (nd (o7 P) (nd (o214 P) (nd (o7 P) (nd (o706 P) .nil .nil) .nil) (nd (o531 P) (nd (o875 P) .nil .nil) .nil)) (nd (o8 P) (nd (o446 P) (nd (o19 P) .nil .nil) .nil) (nd (o620 P) (nd (o952 P) .nil .nil) .nil))) (nd (o177 P) (nd (o255 P) (nd (o408 P) (nd (o748 P) .nil .nil) .nil) (nd (o7 P) (nd (o915 P) .nil .nil) .nil)) (nd (o331 P) (nd (o486 P) (nd (o7 P) .nil .nil) .nil) (nd (o664 P) .nil .nil)))))) (nd (o7 P) (nd (o32 P) (nd (o57 P) (nd (o106 P) (nd (o192 P) (nd (o7 P) (nd (o679 P) .nil .nil) .nil) (nd (o501 P) (nd (o848 P) .nil .nil) .nil)) (nd (o269 P) (nd (o7 P) (nd (o764 P) .nil .nil) .nil) (nd (o592 P) (nd (o929 P) .nil .nil) .nil))) (nd (o154 P) (nd (o7 P) (nd (o384 P) (nd (o722 P) .nil .nil) .nil) (nd (o547 P) (nd (o891 P) .nil .nil) .nil)) (nd (o305 P) (nd (o460 P) (nd (o805 P) .nil .nil) .nil) (nd (o637 P) .nil .nil)))) (nd (o81 P) (nd (o130 P) (nd (o7 P) (nd (o364 P) (nd (o8 P) .nil .nil) .nil) (nd (o526 P) (nd (o8 P) .nil .nil) .nil)) (nd (o7 P) (nd (o8 P) (nd (o784 P) .nil .nil) .nil) (nd (o8 P) (nd (o948 P) .nil .nil) .nil))) (nd (o172 P) (nd (o250 P) (nd (o8 P) (nd (o741 P) .nil .nil) .nil) (nd (o571 P) (nd (o910 P) .nil .nil) .nil)) (nd (o8 P) (nd (o481 P) (nd (o7 P) .nil .nil) .nil) (nd (o657 P) .nil .nil))))) (nd (o19 P) (nd (o7 P) (nd (o117 P) (nd (o8 P) (nd (o354 P) (nd (o19 P) .nil .nil) .nil) (nd (o8 P) (nd (o8 P) .nil .nil) .nil)) (nd (o278 P) (nd (o431 P) (nd (o8 P) .nil .nil) .nil) (nd (o606 P) (nd (o938 P) .nil .nil) .nil))) (nd (o163 P) (nd (o240 P) (nd (o394 P) (nd (o7 P) .nil .nil) .nil) (nd (o560 P) (nd (o900 P) .nil .nil) .nil)) (nd (o318 P) (nd (o7 P) (nd (o8 P) .nil .nil) .nil) (nd (o647 P) .nil .nil)))) (nd (o93 P) (nd (o141 P) (nd (o219 P) (nd (o375 P) (nd (o7 P) .nil .nil) .nil) (nd (o537 P) (nd (o880 P) .nil .nil) .nil)) (nd (o296 P) (nd (o450 P) (nd (o796 P) .nil .nil) .nil) (nd (o626 P) (nd (o959 P) .nil .nil) .nil))) (nd (o183 P) (nd (o260 P) (nd (o413 P) (nd (o753 P) .nil .nil) .nil) (nd (o7 P) (nd (o920 P) .nil .nil) .nil)) (nd (o7 P) (nd (o491 P) (nd (o837 P) .nil .nil) .nil) (nd (o670 P) .nil .nil))))))) (nd (o12 P) (nd (o17 P) (nd (o29 P) (nd (o53 P) (nd (o102 P) (nd (o189 P) (nd (o7 P) (nd (o7 P) .nil .nil) .nil) (nd (o497 P) (nd (o844 P) .nil .nil) .nil)) (nd (o267 P) (nd (o7 P) (nd (o761 P) .nil .nil) .nil) (nd (o7 P) (nd (o927 P) .nil .nil) .nil))) (nd (o150 P) (nd (o7 P) (nd (o7 P) (nd (o719 P) .nil .nil) .nil) (nd (o8 P) (nd (o889 P) .nil .nil) .nil)) (nd (o7 P) (nd (o458 P) (nd (o7 P) .nil .nil) .nil) (nd (o635 P) .nil .nil)))) (nd (o78 P) (nd (o7 P) (nd (o208 P) (nd (o7 P) (nd (o699 P) .nil .nil) .nil) (nd (o522 P) (nd (o868 P) .nil .nil) .nil)) (nd (o6 P) (nd (o438 P) (nd (o780 P) .nil .nil) .nil) (nd (o613 P) (nd (o945 P) .nil .nil) .nil))) (nd (o7 P) (nd (o248 P) (nd (o402 P) (nd (o739 P) .nil .nil) .nil) (nd (o567 P) (nd (o7 P) .nil .nil) .nil)) (nd (o324 P) (nd (o7 P) (nd (o825 P) .nil .nil) .nil) (nd (o7 P) .nil .nil))))) (nd (o42 P) (nd (o66 P) (nd (o115 P) (nd (o198 P) (nd (o352 P) (nd (o687 P) .nil .nil) .nil) (nd (o511 P) (nd (o7 P) .nil .nil) .nil)) (nd (o7 P) (nd (o429 P) (nd (o770 P) .nil .nil) .nil) (nd (o7 P) (nd (o7 P) .nil .nil) .nil))) (nd (o161 P) (nd (o238 P) (nd (o8 P) (nd (o7 P) .nil .nil) .nil) (nd (o556 P) (nd (o7 P) .nil .nil) .nil)) (nd (o315 P) (nd (o469 P) (nd (o813 P) .nil .nil) .nil) (nd (o8 P) .nil .nil)))) (nd (o91 P) (nd (o139 P) (nd (o8 P) (nd (o371 P) (nd (o709 P) .nil .nil) .nil) (nd (o535 P) (nd (o878 P) .nil .nil) .nil)) (nd (o294 P) (nd (o448 P) (nd (o792 P) .nil .nil) .nil) (nd (o623 P) (nd (o955 P) .nil .nil) .nil))) (nd (o8 P) (nd (o258 P) (nd (o8 P) (nd (o750 P) .nil .nil) .nil) (nd (o580 P) (nd (o8 P) .nil .nil) .nil)) (nd (o334 P) (nd (o488 P) (nd (o7 P) .nil .nil) .nil) (nd (o667 P) .nil .nil)))))) (nd (o7 P) (nd (o8 P) (nd (o28 P) (nd (o19 P) (nd (o7 P) (nd (o347 P) (nd (o8 P) .nil .nil) .nil) (nd (o505 P) (nd (o852 P) .nil .nil) .nil)) (nd (o272 P) (nd (o424 P) (nd (o7 P) .nil .nil) .nil) (nd (o596 P) (nd (o932 P) .nil .nil) .nil))) (nd (o156 P) (nd (o230 P) (nd (o8 P) (nd (o725 P) .nil .nil) .nil) (nd (o551 P) (nd (o894 P) .nil .nil) .nil)) (nd (o309 P) (nd (o462 P) (nd (o8 P) .nil .nil) .nil) (nd (o640 P) .nil .nil)))) (nd (o84 P) (nd (o7 P) (nd (o7 P) (nd (o7 P) (nd (o704 P) .nil .nil) .nil) (nd (o19 P) (nd (o873 P) .nil .nil) .nil)) (nd (o290 P) (nd (o7 P) (nd (o786 P) .nil .nil) .nil) (nd (o618 P) (nd (o950 P) .nil .nil) .nil))) (nd (o7 P) (nd (o253 P) (nd (o406 P) (nd (o744 P) .nil .nil) .nil) (nd (o507 P) (nd (o7 P) .nil .nil) .nil)) (nd (o329 P) (nd (o8 P) (nd (o825 P) .nil .nil) .nil) (nd (o661 P) .nil .nil))))) (nd (o47 P) (nd (o72 P) (nd (o121 P) (nd (o203 P) (nd (o357 P) (nd (o693 P) .nil .nil) .nil) (nd (o517 P) (nd (o863 P) .nil .nil) .nil)) (nd (o8 P) (nd (o8 P) (nd (o775 P) .nil .nil) .nil) (nd (o7 P) (nd (o8 P) .nil .nil) .nil))) (nd (o166 P) (nd (o243 P) (nd (o6 P) (nd (o734 P) .nil .nil) .nil) (nd (o562 P) (nd (o8 P) .nil .nil) .nil)) (nd (o7 P) (nd (o475 P) (nd (o819 P) .nil .nil) .nil) (nd (o649 P) .nil .nil)))) (nd (o96 P) (nd (o144 P) (nd (o221 P) (nd (o377 P) (nd (o7 P) .nil .nil) .nil) (nd (o540 P) (nd (o882 P) .nil .nil) .nil)) (nd (o299 P) (nd (o8 P) (nd (o798 P) .nil .nil) .nil) (nd (o628 P) .nil .nil))) (nd (o8 P) (nd (o262 P) (nd (o415 P) (nd (o755 P) .nil .nil) .nil) (nd (o580 P) (nd (o922 P) .nil .nil) .nil)) (nd (o7 P) (nd (o7 P) (nd (o8 P) .nil .nil) .nil) (nd (o673 P) .nil .nil))))))))) (nd (o2 P) (nd (o4 P) (nd (o8 P) (nd (o8 P) (nd (o25 P) (nd (o50 P) (nd (o99 P) (nd (o186 P) (nd (o340 P) (nd (o674 P) .nil .nil) .nil) (nd (o495 P) (nd (o842 P) .nil .nil) .nil)) (nd (o7 P) (nd (o417 P) (nd (o757 P) .nil .nil) .nil) (nd (o587 P) (nd (o924 P) .nil .nil) .nil))) (nd (o8 P) (nd (o223 P) (nd (o7 P) (nd (o716 P) .nil .nil) .nil) (nd (o7 P) (nd (o884 P) .nil .nil) .nil)) (nd (o300 P) (nd (o455 P) (nd (o7 P) .nil .nil) .nil) (nd (o630 P) .nil .nil)))) (nd (o75 P) (nd (o124 P) (nd (o8 P) (nd (o358 P) (nd (o696 P) .nil .nil) .nil) (nd (o519 P) (nd (o865 P) .nil .nil) .nil)) (nd (o281 P) (nd (o435 P) (nd (o8 P) .nil .nil) .nil) (nd (o611 P) (nd (o942 P) .nil .nil) .nil))) (nd (o167 P) (nd (o8 P) (nd (o398 P) (nd (o7 P) .nil .nil) .nil) (nd (o559 P) (nd (o904 P) .nil .nil) .nil)) (nd (o322 P) (nd (o476 P) (nd (o821 P) .nil .nil) .nil) (nd (o651 P) .nil .nil))))) (nd (o37 P) (nd (o62 P) (nd (o7 P) (nd (o196 P) (nd (o7 P) (nd (o683 P) .nil .nil) .nil) (nd (o19 P) (nd (o854 P) .nil .nil) .nil)) (nd (o273 P) (nd (o7 P) (nd (o768 P) .nil .nil) .nil) (nd (o599 P) (nd (o933 P) .nil .nil) .nil))) (nd (o158 P) (nd (o233 P) (nd (o388 P) (nd (o727 P) .nil .nil) .nil) (nd (o507 P) (nd (o895 P) .nil .nil) .nil)) (nd (o312 P) (nd (o464 P) (nd (o809 P) .nil .nil) .nil) (nd (o7 P) .nil .nil)))) (nd (o86 P) (nd (o135 P) (nd (o7 P) (nd (o368 P) (nd (o8 P) .nil .nil) .nil) (nd (o7 P) (nd (o8 P) .nil .nil) .nil)) (nd (o7 P) (nd (o445 P) (nd (o789 P) .nil .nil) .nil) (nd (o8 P) (nd (o8 P) .nil .nil) .nil))) (nd (o7 P) (nd (o8 P) (nd (o8 P) (nd (o747 P) .nil .nil) .nil) (nd (o576 P) (nd (o7 P) .nil .nil) .nil)) (nd (o8 P) (nd (o485 P) (nd (o832 P) .nil .nil) .nil) (nd (o663 P) .nil .nil)))))) (nd (o20 P) (nd (o31 P) (nd (o56 P) (nd (o105 P) (nd (o191 P) (nd (o345 P) (nd (o7 P) .nil .nil) .nil) (nd (o500 P) (nd (o847 P) .nil .nil) .nil)) (nd (o8 P) (nd (o422 P) (nd (o763 P) .nil .nil) .nil) (nd (o7 P) (nd (o8 P) .nil .nil) .nil))) (nd (o153 P) (nd (o228 P) (nd (o7 P) (nd (o721 P) .nil .nil) .nil) (nd (o546 P) (nd (o19 P) .nil .nil) .nil)) (nd (o7 P) (nd (o459 P) (nd (o7 P) .nil .nil) .nil) (nd (o7 P) .nil .nil)))) (nd (o80 P) (nd (o129 P) (nd (o209 P) (nd (o363 P) (nd (o7 P) .nil .nil) .nil) (nd (o525 P) (nd (o870 P) .nil .nil) .nil)) (nd (o286 P) (nd (o7 P) (nd (o783 P) .nil .nil) .nil) (nd (o7 P) (nd (o947 P) .nil .nil) .nil))) (nd (o7 P) (nd (o8 P) (nd (o7 P) (nd (o8 P) .nil .nil) .nil) (nd (o570 P) (nd (o7 P) .nil .nil) .nil)) (nd (o7 P) (nd (o7 P) (nd (o827 P) .nil .nil) .nil) (nd (o656 P) .nil .nil))))) (nd (o28 P) (nd (o68 P) (nd (o7 P) (nd (o7 P) (nd (o8 P) (nd (o690 P) .nil .nil) .nil) (nd (o514 P) (nd (o860 P) .nil .nil) .nil)) (nd (o7 P) (nd (o8 P) (nd (o7 P) .nil .nil) .nil) (nd (o605 P) (nd (o7 P) .nil .nil) .nil))) (nd (o8 P) (nd (o8 P) (nd (o393 P) (nd (o732 P) .nil .nil) .nil) (nd (o559 P) (nd (o7 P) .nil .nil) .nil)) (nd (o317 P) (nd (o472 P) (nd (o7 P) .nil .nil) .nil) (nd (o646 P) .nil .nil)))) (nd (o19 P) (nd (o140 P) (nd (o218 P) (nd (o374 P) (nd (o710 P) .nil .nil) .nil) (nd (o7 P) (nd (o879 P) .nil .nil) .nil)) (nd (o8 P) (nd (o8 P) (nd (o795 P) .nil .nil) .nil) (nd (o625 P) (nd (o958 P) .nil .nil) .nil))) (nd (o182 P) (nd (o259 P) (nd (o412 P) (nd (o752 P) .nil .nil) .nil) (nd (o582 P) (nd (o919 P) .nil .nil) .nil)) (nd (o335 P) (nd (o490 P) (nd (o7 P) .nil .nil) .nil) (nd (o8 P) .nil .nil))))))) (nd (o373 P) (nd (o16 P) (nd (o19 P) (nd (o7 P) (nd (o101 P) (nd (o8 P) (nd (o342 P) (nd (o677 P) .nil .nil) .nil) (nd (o7 P) (nd (o7 P) .nil .nil) .nil)) (nd (o266 P) (nd (o419 P) (nd (o8 P) .nil .nil) .nil) (nd (o590 P) (nd (o926 P) .nil .nil) .nil))) (nd (o149 P) (nd (o225 P) (nd (o382 P) (nd (o718 P) .nil .nil) .nil) (nd (o7 P) (nd (o888 P) .nil .nil) .nil)) (nd (o303 P) (nd (o457 P) (nd (o803 P) .nil .nil) .nil) (nd (o634 P) .nil .nil)))) (nd (o77 P) (nd (o126 P) (nd (o207 P) (nd (o361 P) (nd (o7 P) .nil .nil) .nil) (nd (o521 P) (nd (o867 P) .nil .nil) .nil)) (nd (o285 P) (nd (o8 P) (nd (o779 P) .nil .nil) .nil) (nd (o7 P) (nd (o8 P) .nil .nil) .nil))) (nd (o170 P) (nd (o247 P) (nd (o401 P) (nd (o738 P) .nil .nil) .nil) (nd (o7 P) (nd (o908 P) .nil .nil) .nil)) (nd (o7 P) (nd (o479 P) (nd (o824 P) .nil .nil) .nil) (nd (o653 P) .nil .nil))))) (nd (o41 P) (nd (o65 P) (nd (o114 P) (nd (o7 P) (nd (o351 P) (nd (o686 P) .nil .nil) .nil) (nd (o510 P) (nd (o857 P) .nil .nil) .nil)) (nd (o276 P) (nd (o428 P) (nd (o7 P) .nil .nil) .nil) (nd (o602 P) (nd (o936 P) .nil .nil) .nil))) (nd (o160 P) (nd (o237 P) (nd (o7 P) (nd (o729 P) .nil .nil) .nil) (nd (o7 P) (nd (o898 P) .nil .nil) .nil)) (nd (o8 P) (nd (o468 P) (nd (o812 P) .nil .nil) .nil) (nd (o7 P) .nil .nil)))) (nd (o90 P) (nd (o138 P) (nd (o7 P) (nd (o370 P) (nd (o708 P) .nil .nil) .nil) (nd (o534 P) (nd (o877 P) .nil .nil) .nil)) (nd (o293 P) (nd (o447 P) (nd (o7 P) .nil .nil) .nil) (nd (o622 P) (nd (o954 P) .nil .nil) .nil))) (nd (o7 P) (nd (o257 P) (nd (o7 P) (nd (o8 P) .nil .nil) .nil) (nd (o579 P) (nd (o7 P) .nil .nil) .nil)) (nd (o333 P) (nd (o8 P) (nd (o835 P) .nil .nil) .nil) (nd (o666 P) .nil .nil)))))) (nd (o22 P) (nd (o35 P) (nd (o60 P) (nd (o28 P) (nd (o193 P) (nd (o7 P) (nd (o7 P) .nil .nil) .nil) (nd (o504 P) (nd (o851 P) .nil .nil) .nil)) (nd (o271 P) (nd (o7 P) (nd (o765 P) .nil .nil) .nil) (nd (o595 P) (nd (o931 P) .nil .nil) .nil))) (nd (o8 P) (nd (o7 P) (nd (o7 P) (nd (o8 P) .nil .nil) .nil) (nd (o550 P) (nd (o893 P) .nil .nil) .nil)) (nd (o308 P) (nd (o8 P) (nd (o7 P) .nil .nil) .nil) (nd (o634 P) .nil .nil)))) (nd (o8 P) (nd (o132 P) (nd (o212 P) (nd (o365 P) (nd (o703 P) .nil .nil) .nil) (nd (o507 P) (nd (o872 P) .nil .nil) .nil)) (nd (o289 P) (nd (o443 P) (nd (o8 P) .nil .nil) .nil) (nd (o617 P) (nd (o949 P) .nil .nil) .nil))) (nd (o175 P) (nd (o252 P) (nd (o405 P) (nd (o743 P) .nil .nil) .nil) (nd (o574 P) (nd (o913 P) .nil .nil) .nil)) (nd (o328 P) (nd (o7 P) (nd (o830 P) .nil .nil) .nil) (nd (o660 P) .nil .nil))))) (nd (o7 P) (nd (o71 P) (nd (o120 P) (nd (o202 P) (nd (o356 P) (nd (o7 P) .nil .nil) .nil) (nd (o516 P) (nd (o862 P) .nil .nil) .nil)) (nd (o7 P) (nd (o7 P) (nd (o774 P) .nil .nil) .nil) (nd (o608 P) (nd (o7 P) .nil .nil) .nil))) (nd (o165 P) (nd (o242 P) (nd (o397 P) (nd (o7 P) .nil .nil) .nil) (nd (o7 P) (nd (o7 P) .nil .nil) .nil)) (nd (o319 P) (nd (o474 P) (nd (o818 P) .nil .nil) .nil) (nd (o8 P) .nil .nil)))) (nd (o95 P) (nd (o143 P) (nd (o8 P) (nd (o8 P) (nd (o713 P) .nil .nil) .nil) (nd (o534 P) (nd (o8 P) .nil .nil) .nil)) (nd (o298 P) (nd (o7 P) (nd (o7 P) .nil .nil) .nil) (nd (o19 P) (nd (o962 P) .nil .nil) .nil))) (nd (o7 P) (nd (o8 P) (nd (o8 P) (nd (o754 P) .nil .nil) .nil) (nd (o585 P) (nd (o8 P) .nil .nil) .nil)) (nd (o338 P) (nd (o492 P) (nd (o7 P) .nil .nil) .nil) (nd (o672 P) .nil .nil)))))))) (nd (o6 P) (nd (o10 P) (nd (o7 P) (nd (o27 P) (nd (o8 P) (nd (o100 P) (nd (o188 P) (nd (o7 P) (nd (o675 P) .nil .nil) .nil) (nd (o8 P) (nd (o8 P) .nil .nil) .nil)) (nd (o265 P) (nd (o7 P) (nd (o759 P) .nil .nil) .nil) (nd (o588 P) (nd (o7 P) .nil .nil) .nil))) (nd (o7 P) (nd (o7 P) (nd (o380 P) (nd (o507 P) .nil .nil) .nil) (nd (o543 P) (nd (o886 P) .nil .nil) .nil)) (nd (o301 P) (nd (o8 P) (nd (o801 P) .nil .nil) .nil) (nd (o632 P) .nil .nil)))) (nd (o28 P) (nd (o19 P) (nd (o7 P) (nd (o359 P) (nd (o8 P) .nil .nil) .nil) (nd (o520 P) (nd (o866 P) .nil .nil) .nil)) (nd (o283 P) (nd (o437 P) (nd (o7 P) .nil .nil) .nil) (nd (o8 P) (nd (o944 P) .nil .nil) .nil))) (nd (o168 P) (nd (o7 P) (nd (o399 P) (nd (o737 P) .nil .nil) .nil) (nd (o8 P) (nd (o906 P) .nil .nil) .nil)) (nd (o8 P) (nd (o477 P) (nd (o822 P) .nil .nil) .nil) (nd (o7 P) .nil .nil))))) (nd (o39 P) (nd (o63 P) (nd (o112 P) (nd (o8 P) (nd (o350 P) (nd (o685 P) .nil .nil) .nil) (nd (o509 P) (nd (o855 P) .nil .nil) .nil)) (nd (o274 P) (nd (o427 P) (nd (o8 P) .nil .nil) .nil) (nd (o19 P) (nd (o934 P) .nil .nil) .nil))) (nd (o7 P) (nd (o235 P) (nd (o390 P) (nd (o7 P) .nil .nil) .nil) (nd (o554 P) (nd (o896 P) .nil .nil) .nil)) (nd (o314 P) (nd (o466 P) (nd (o811 P) .nil .nil) .nil) (nd (o643 P) .nil .nil)))) (nd (o88 P) (nd (o136 P) (nd (o215 P) (nd (o8 P) (nd (o7 P) .nil .nil) .nil) (nd (o532 P) (nd (o7 P) .nil .nil) .nil)) (nd (o292 P) (nd (o7 P) (nd (o790 P) .nil .nil) .nil) (nd (o7 P) (nd (o7 P) .nil .nil) .nil))) (nd (o178 P) (nd (o7 P) (nd (o409 P) (nd (o749 P) .nil .nil) .nil) (nd (o577 P) (nd (o916 P) .nil .nil) .nil)) (nd (o7 P) (nd (o487 P) (nd (o833 P) .nil .nil) .nil) (nd (o7 P) .nil .nil)))))) (nd (o8 P) (nd (o33 P) (nd (o58 P) (nd (o107 P) (nd (o7 P) (nd (o8 P) (nd (o680 P) .nil .nil) .nil) (nd (o502 P) (nd (o849 P) .nil .nil) .nil)) (nd (o7 P) (nd (o8 P) (nd (o7 P) .nil .nil) .nil) (nd (o593 P) (nd (o7 P) .nil .nil) .nil))) (nd (o155 P) (nd (o8 P) (nd (o385 P) (nd (o723 P) .nil .nil) .nil) (nd (o548 P) (nd (o7 P) .nil .nil) .nil)) (nd (o306 P) (nd (o461 P) (nd (o806 P) .nil .nil) .nil) (nd (o638 P) .nil .nil)))) (nd (o82 P) (nd (o131 P) (nd (o210 P) (nd (o7 P) (nd (o702 P) .nil .nil) .nil) (nd (o527 P) (nd (o871 P) .nil .nil) .nil)) (nd (o287 P) (nd (o441 P) (nd (o785 P) .nil .nil) .nil) (nd (o616 P) (nd (o7 P) .nil .nil) .nil))) (nd (o173 P) (nd (o7 P) (nd (o404 P) (nd (o7 P) .nil .nil) .nil) (nd (o572 P) (nd (o911 P) .nil .nil) .nil)) (nd (o327 P) (nd (o482 P) (nd (o828 P) .nil .nil) .nil) (nd (o658 P) .nil .nil))))) (nd (o45 P) (nd (o69 P) (nd (o118 P) (nd (o201 P) (nd (o7 P) (nd (o691 P) .nil .nil) .nil) (nd (o515 P) (nd (o861 P) .nil .nil) .nil)) (nd (o279 P) (nd (o432 P) (nd (o773 P) .nil .nil) .nil) (nd (o607 P) (nd (o939 P) .nil .nil) .nil))) (nd (o7 P) (nd (o7 P) (nd (o395 P) (nd (o8 P) .nil .nil) .nil) (nd (o8 P) (nd (o901 P) .nil .nil) .nil)) (nd (o7 P) (nd (o8 P) (nd (o816 P) .nil .nil) .nil) (nd (o648 P) .nil .nil)))) (nd (o94 P) (nd (o7 P) (nd (o220 P) (nd (o376 P) (nd (o711 P) .nil .nil) .nil) (nd (o538 P) (nd (o881 P) .nil .nil) .nil)) (nd (o7 P) (nd (o451 P) (nd (o8 P) .nil .nil) .nil) (nd (o627 P) (nd (o960 P) .nil .nil) .nil))) (nd (o184 P) (nd (o261 P) (nd (o414 P) (nd (o507 P) .nil .nil) .nil) (nd (o583 P) (nd (o921 P) .nil .nil) .nil)) (nd (o336 P) (nd (o7 P) (nd (o838 P) .nil .nil) .nil) (nd (o7 P) .nil .nil))))))) (nd (o13 P) (nd (o18 P) (nd (o30 P) (nd (o54 P) (nd (o103 P) (nd (o7 P) (nd (o343 P) (nd (o8 P) .nil .nil) .nil) (nd (o498 P) (nd (o845 P) .nil .nil) .nil)) (nd (o268 P) (nd (o420 P) (nd (o7 P) .nil .nil) .nil) (nd (o8 P) (nd (o928 P) .nil .nil) .nil))) (nd (o151 P) (nd (o226 P) (nd (o19 P) (nd (o7 P) .nil .nil) .nil) (nd (o545 P) (nd (o890 P) .nil .nil) .nil)) (nd (o8 P) (nd (o7 P) (nd (o8 P) .nil .nil) .nil) (nd (o8 P) .nil .nil)))) (nd (o7 P) (nd (o127 P) (nd (o7 P) (nd (o8 P) (nd (o700 P) .nil .nil) .nil) (nd (o523 P) (nd (o869 P) .nil .nil) .nil)) (nd (o7 P) (nd (o439 P) (nd (o781 P) .nil .nil) .nil) (nd (o614 P) (nd (o7 P) .nil .nil) .nil))) (nd (o19 P) (nd (o249 P) (nd (o403 P) (nd (o740 P) .nil .nil) .nil) (nd (o568 P) (nd (o8 P) .nil .nil) .nil)) (nd (o325 P) (nd (o8 P) (nd (o826 P) .nil .nil) .nil) (nd (o654 P) .nil .nil))))) (nd (o43 P) (nd (o67 P) (nd (o8 P) (nd (o199 P) (nd (o353 P) (nd (o688 P) .nil .nil) .nil) (nd (o512 P) (nd (o858 P) .nil .nil) .nil)) (nd (o8 P) (nd (o430 P) (nd (o771 P) .nil .nil) .nil) (nd (o603 P) (nd (o8 P) .nil .nil) .nil))) (nd (o162 P) (nd (o239 P) (nd (o392 P) (nd (o730 P) .nil .nil) .nil) (nd (o557 P) (nd (o8 P) .nil .nil) .nil)) (nd (o7 P) (nd (o470 P) (nd (o814 P) .nil .nil) .nil) (nd (o645 P) .nil .nil)))) (nd (o92 P) (nd (o28 P) (nd (o217 P) (nd (o7 P) (nd (o7 P) .nil .nil) .nil) (nd (o8 P) (nd (o7 P) .nil .nil) .nil)) (nd (o295 P) (nd (o449 P) (nd (o793 P) .nil .nil) .nil) (nd (o7 P) (nd (o956 P) .nil .nil) .nil))) (nd (o180 P) (nd (o7 P) (nd (o411 P) (nd (o7 P) .nil .nil) .nil) (nd (o581 P) (nd (o918 P) .nil .nil) .nil)) (nd (o7 P) (nd (o7 P) (nd (o8 P) .nil .nil) .nil) (nd (o668 P) .nil .nil)))))) (nd (o23 P) (nd (o36 P) (nd (o19 P) (nd (o109 P) (nd (o194 P) (nd (o348 P) (nd (o682 P) .nil .nil) .nil) (nd (o506 P) (nd (o19 P) .nil .nil) .nil)) (nd (o7 P) (nd (o425 P) (nd (o766 P) .nil .nil) .nil) (nd (o597 P) (nd (o7 P) .nil .nil) .nil))) (nd (o7 P) (nd (o231 P) (nd (o387 P) (nd (o7 P) .nil .nil) .nil) (nd (o552 P) (nd (o7 P) .nil .nil) .nil)) (nd (o310 P) (nd (o7 P) (nd (o808 P) .nil .nil) .nil) (nd (o8 P) .nil .nil)))) (nd (o7 P) (nd (o133 P) (nd (o8 P) (nd (o366 P) (nd (o705 P) .nil .nil) .nil) (nd (o529 P) (nd (o874 P) .nil .nil) .nil)) (nd (o291 P) (nd (o8 P) (nd (o787 P) .nil .nil) .nil) (nd (o619 P) (nd (o951 P) .nil .nil) .nil))) (nd (o8 P) (nd (o254 P) (nd (o407 P) (nd (o745 P) .nil .nil) .nil) (nd (o19 P) (nd (o8 P) .nil .nil) .nil)) (nd (o330 P) (nd (o484 P) (nd (o831 P) .nil .nil) .nil) (nd (o662 P) .nil .nil))))) (nd (o48 P) (nd (o73 P) (nd (o122 P) (nd (o204 P) (nd (o7 P) (nd (o694 P) .nil .nil) .nil) (nd (o518 P) (nd (o864 P) .nil .nil) .nil)) (nd (o7 P) (nd (o434 P) (nd (o776 P) .nil .nil) .nil) (nd (o609 P) (nd (o941 P) .nil .nil) .nil))) (nd (o7 P) (nd (o244 P) (nd (o7 P) (nd (o735 P) .nil .nil) .nil) (nd (o563 P) (nd (o903 P) .nil .nil) .nil)) (nd (o320 P) (nd (o7 P) (nd (o19 P) .nil .nil) .nil) (nd (o7 P) .nil .nil)))) (nd (o97 P) (nd (o145 P) (nd (o7 P) (nd (o378 P) (nd (o714 P) .nil .nil) .nil) (nd (o8 P) (nd (o7 P) .nil .nil) .nil)) (nd (o7 P) (nd (o453 P) (nd (o799 P) .nil .nil) .nil) (nd (o629 P) .nil .nil))) (nd (o185 P) (nd (o263 P) (nd (o7 P) (nd (o7 P) .nil .nil) .nil) (nd (o586 P) (nd (o7 P) .nil .nil) .nil)) (nd (o8 P) (nd (o493 P) (nd (o840 P) .nil .nil) .nil) (nd (o7 P) .nil .nil))))))))))
def S1 (w : World) (os : OsState) : SharedT := ⟨tree1 w.params, 566, {}, #[], {}, 935, os⟩
def T1 : Thread := ⟨denQ tabQ (.body (bE.drop 49) eV), .body bE eV, ⟨272, 0, 273, 86⟩, [topFrame ⟨0, 0, 0, 0⟩]⟩
theorem st1 (w : World) (os : OsState) : Hf.startF (stepQ (denQ tabQ) R.prog w) 4692 R.prog w os = some (11, S1 w os, T1) := by
  kernel_rfl
def S2 (w : World) (os : OsState) : SharedT := ⟨tree2 w.params, 1469, {}, #[], {}, 2129, os⟩
def T2 : Thread := ⟨denQ tabQ (.body (bE.drop 74) eV), .body bE eV, ⟨671, 0, 747, 70⟩, [topFrame ⟨0, 0, 0, 0⟩]⟩
theorem go2 (w : World) (os : OsState) : Hf.goK (stepQ (denQ tabQ) R.prog w) 11 (bootAnn w) 7617 (S1 w os) T1 = some (S2 w os, T2) := by
  kernel_rfl
theorem st2 (w : World) (os : OsState) : Hf.startF (stepQ (denQ tabQ) R.prog w) (4692 + 7617) R.prog w os = some (11, S2 w os, T2) := Hf.start_go (st1 w os) (go2 w os)
abbrev dL : DefRec := HeadRun.topDef R.prog 93
theorem hd_def : defOf qv R.name = some (dL, []) := by kernel_rfl
theorem hd_p : R.prog.theDef R.name = some (dL.params, dL.body, dL.scope) := by kernel_rfl
theorem hd_k : kwWritten? dL.params.kwonlyargs dL.params.kw_defaults = some [] := by kernel_rfl
theorem hd_op : opening R.prog = plainProg R.prog.main.scope.names := by kernel_rfl
theorem hd_fe (s : Shared) : fenceModules? R.prog s = some s := by kernel_rfl
theorem hd_wr : (!R.writes || R.records.isEmpty) = true := by kernel_rfl
theorem hd_ok : (chainsOk qv && opensWell R.prog && (frees R.toRowW && R.within.isEmpty)) = true := by decide +kernel
theorem hd_b : R.prog.bare := ⟨rfl, rfl, rfl, rfl, rfl, by decide +kernel⟩
theorem look0 (w : World) (os : OsState) : (HeadRun.goF (HeadRun.stepQ (HeadRun.denQ HeadRun.tabQ) R.prog w) 11 (HeadRun.bootAnn w) 670 (S2 w os) T2).map (fun s => looksF R.prog (boot_heap w.params) s.abs) = some true := by
  kernel_rfl
theorem look1 (w : World) (os : OsState) : (HeadRun.goF (HeadRun.stepQ (HeadRun.denQ HeadRun.tabQ) R.prog w) 11 (HeadRun.bootAnn w) 670 (S2 w os) T2).map (fun s => (HeadRun.seenQ qv names (importedModules R.prog.main.body) (fun s => xlAt qv [] s && recOk R.toRowW.records s) s.abs).1) = some (openGood qv names).1 := by
  kernel_rfl
theorem look2 (w : World) (os : OsState) : (HeadRun.goF (HeadRun.stepQ (HeadRun.denQ HeadRun.tabQ) R.prog w) 11 (HeadRun.bootAnn w) 670 (S2 w os) T2).map (fun s => (HeadRun.seenQ qv names (importedModules R.prog.main.body) (fun s => xlAt qv [] s && recOk R.toRowW.records s) s.abs).2) = some (openGood qv names).2 := by
  kernel_rfl
theorem looks (w : World) (os : OsState) : (HeadRun.goF (HeadRun.stepQ (HeadRun.denQ HeadRun.tabQ) R.prog w) 11 (HeadRun.bootAnn w) 670 (S2 w os) T2).map (fun s => (looksF R.prog (boot_heap w.params) s.abs, HeadRun.seenQ qv names (importedModules R.prog.main.body) (fun s => xlAt qv [] s && recOk R.toRowW.records s) s.abs)) = some (true, openGood qv names) := Hf.map_three (look0 w os) (look1 w os) (look2 w os)
end Kx
section
open PySem PySem.W PySem.Calls PyProof.Rows
local macro_rules | `(tactic| o_head ($_f $K $as $e)) => `(tactic| (
  refine HeadRun.head_any (r := Kx.R) (q := Kx.qv) (H := kHook $K $as $e) (ob := fun s => List.map (HeadRun.getT s) $as) (M := 4692 + 7617 + 670) (loose := Kx.names) (d := Kx.dL) (kwd := []) (fun s => List.map_congr_left fun a _ => HeadRun.getT_eq s a) Kx.hd_op Kx.hd_fe (fun w => Hf.run_of2 (a := 4692 + 7617) (b := 670) (n0 := 11) (S := Kx.S2 w) (T := Kx.T2) (Kx.st2 w) (Kx.looks w) ?run) Kx.hd_def Kx.hd_p Kx.hd_k Kx.hd_wr (by first | assumption | decide +kernel) Kx.hd_ok Kx.hd_b ?hw ?hc; (case run => intro os; kernel_rfl)))
open_top Kx.head_top for PySem.Challenge.rw_heldfloods_k38_copies_by_pixels
end
end
namespace Hf
open PySem PySem.Spec PyProof.Rows L2
/-! ### readings, one step each -/
section
variable {σ : L2.St} {H : Hp} {Q : VK} {i : Nat} {v x y : V} {ta tb te tf : TE} {r : R2} {tt tu : TT} {t u : TA} {s1 s2 : TS} {D : Ends} {g : TG} {QA : List V → Hp → Prop} {QB : Bool → Hp → Prop}
theorem rd_var (h : σ[i]? = some (some v)) (q : Q v H) : tVar i σ H Q := ⟨v, h, q⟩
theorem rd_c (q : Q v H) : tC v σ H Q := q
theorem rd_op (q : ta σ H fun x H1 => tb σ H1 fun y H2 => r x y H2 Q) : tOp r ta tb σ H Q := q
theorem rd_un {r : V → Hp → VK → Prop} (q : ta σ H fun x H1 => r x H1 Q) : tUn r ta σ H Q := q
theorem rd_test (q : te σ H fun x H' => ∃ k, x = .bl k ∧ QB k H') : tTest te σ H QB := q
theorem rd_tB (q : te σ H fun x H' => ∃ k, x = .bl k ∧ QB k H') : tB te σ H QB := q
theorem rd_and (q : tt σ H fun c H1 => if c = true then tu σ H1 QB else QB false H1) : tAnd tt tu σ H QB := q
theorem rd_or (q : tt σ H fun c H1 => if c = true then QB true H1 else tu σ H1 QB) : tOr tt tu σ H QB := q
theorem rd_not (q : tt σ H fun c H1 => QB (!c) H1) : tNot tt σ H QB := q
theorem rd_andV (q : ta σ H fun x H1 => ∃ c, x = .bl c ∧ if c = true then tb σ H1 Q else Q (.bl false) H1) : tAndV ta tb σ H Q := q
theorem rd_orV (q : ta σ H fun x H1 => ∃ c, x = .bl c ∧ if c = true then Q (.bl true) H1 else tb σ H1 Q) : tOrV ta tb σ H Q := q
theorem rd_notV (q : ta σ H fun x H1 => ∃ c, x = .bl c ∧ Q (.bl (!c)) H1) : tNotV ta σ H Q := q
theorem rd_if (q : tt σ H fun c H1 => if c = true then ta σ H1 Q else tb σ H1 Q) : tIf tt ta tb σ H Q := q
theorem rd_nil (q : QA [] H) : tNil σ H QA := q
theorem rd_cons (q : ta σ H fun x H1 => t σ H1 fun xs H2 => QA (x :: xs) H2) : tCons ta t σ H QA := q
theorem rd_seq (q : s1 { D with nx := s2 D } σ H) : tSeq s1 s2 D σ H := q
theorem rd_next (q : D.nx σ H) : tNext D σ H := q
theorem rd_drop (q : te σ H fun _ H1 => D.nx σ H1) : tDrop te D σ H := q
theorem rd_ret (q : te σ H D.rt) : tRet te D σ H := q
theorem rd_retN (q : D.rt .non H) : tRetN D σ H := q
theorem rd_ifS (q : tt σ H fun b H1 => if b = true then s1 D σ H1 else s2 D σ H1) : tIfS tt s1 s2 D σ H := q
theorem rd_asg (q : te σ H fun x H1 => g x σ H1 D.nx) : tAsg te g D σ H := q
theorem rd_gname {K : L2.St → Hp → Prop} (q : K (σ.set i (some v)) H) : gName i v σ H K := q
theorem rd_par {j : Nat} (q : t σ H fun vs H1 => ∃ v w, vs = [v, w] ∧ D.nx ((σ.set i (some v)).set j (some w)) H1) : tPar i j t D σ H := q
theorem rd_bl {b : Bool} {K : Bool → Hp → Prop} (q : K b H) : ∃ k, V.bl b = .bl k ∧ K k H := ⟨b, rfl, q⟩
theorem rd_blP {b : Bool} {K : Bool → Prop} (q : K b) : ∃ k, V.bl b = .bl k ∧ K k := ⟨b, rfl, q⟩
theorem rd_I0 {g : Int → Int → V} {i j : Int} (q : Q (g i j) H) : rI0 g (.int i) (.int j) H Q := ⟨i, j, rfl, rfl, q⟩
theorem rd_I {C : Int → Int → Prop} {g : Int → Int → V} {i j : Int} (c : C i j) (q : Q (g i j) H) : rI C g (.int i) (.int j) H Q := ⟨i, j, rfl, rfl, c, q⟩
theorem rd_U {g : Int → V} {i : Int} (q : Q (g i) H) : rU g (.int i) H Q := ⟨i, rfl, q⟩
theorem rd_eq (h : scal x y = true) (q : Q (.bl (decide (x = y))) H) : rEq x y H Q := ⟨h, q⟩
theorem rd_ne (h : scal x y = true) (q : Q (.bl (!decide (x = y))) H) : rNe x y H Q := ⟨h, q⟩
theorem rd_cb {r : List V → Hp → VK → Prop} (q : t σ H fun vs H1 => r vs H1 Q) : tCB r t σ H Q := q
theorem ite_split {b : Bool} {A B : Prop} (h1 : b = true → A) (h2 : b = false → B) : if b = true then A else B := by
  cases b
  · exact iteF (h2 rfl)
  · exact iteT (h1 rfl)
end
end Hf
namespace Hf
open PySem PySem.Spec PyProof.Rows L2
/-- a def of the class at C under the name m, at g -/
structure Opr (K : PySem.W.Frag) (C : Addr) (m : Str) (g : Addr) : Prop where
  at_ : PySem.W.findIn K (.ref C) m = some (some (.ref g))
  fn : PySem.W.isFn K (.ref g) = true
section
variable {X : Cx} {CX : CXT} {pins : List (Addr × Obj)} {σ : L2.St} {H : Hp} {s : Shared} {a b C dx dy g : Addr} {fs gs : List (Str × V)} {n : Nat} {sp : Sp} {E : XK}
theorem ins_at (I : Inv X pins σ H s) (h : H a = some (.ins C dx fs)) : ∃ ox od, PySem.W.InstAt s.heap a ox C od := by
  obtain ⟨mA, O, _⟩ := ins_get I.hok h
  obtain ⟨od, J, _⟩ := O.look
  exact ⟨_, _, J⟩
/-- what the written part says of int beside C -/
structure OprI (K : PySem.W.Frag) (C : Addr) (nm : String) : Prop where
  rc : ∃ rc, PySem.W.findIn K (.ref C) (dunderR nm) = some rc ∧ (rc = none ∨ ∃ g : Addr, rc = some (.ref g))
  fo : ∃ fo, PySem.W.findIn K (.type "int") (PySem.dunder nm) = some fo
  ro : ∃ ro, PySem.W.findIn K (.type "int") (dunderR nm) = some ro
  sub : PySem.W.subIn K (.type "int") (.ref C) = some false
end
end Hf
namespace PySem.W
open PySem
end PySem.W
namespace Hf
open PySem PySem.Spec PyProof.Rows L2
section
variable {X : Cx} {CX : CXT} {n : Nat} {C g : Addr} {sp : Sp} {E : XK} {D : Eqv}
/-- what the class says of != -/
structure NeC (K : PySem.W.Frag) (C : Addr) : Prop where
  ne : PySem.W.findIn K (.ref C) "__ne__" = some (some (.builtin "object.__ne__"))
  ob : PySem.W.subIn K (.ref C) (.type "object") = some true
end
/-! ### defs, methods, classes by name, positional -/
section
variable {P : Program} {w : World} {K : PySem.W.Frag} {mg : Str → Option Value} {base : Heap}
/-- x, a def of the module, keeps sp -/
def Cal (P : Program) (w : World) (K : PySem.W.Frag) (mg : Str → Option Value) (base : Heap) (k : Nat) (x : Str) (sp : Sp) : Prop :=
  ∃ f, FnR P w K mg base (L2.CX P w) k f sp ∧ mg x = some (.ref f) ∧ PySem.W.keepIn K (.ref f) = true
/-- m, a def of the class at C, keeps sp (self ahead) -/
def Met (P : Program) (w : World) (K : PySem.W.Frag) (mg : Str → Option Value) (base : Heap) (k : Nat) (C : Addr) (m : Str) (sp : Sp) : Prop :=
  ∃ f, FnR P w K mg base (L2.CX P w) k f sp ∧ Meth K C m f
/-- x, a class of the module at C, is made by sp (self ahead) -/
def Mak (P : Program) (w : World) (K : PySem.W.Frag) (mg : Str → Option Value) (base : Heap) (k : Nat) (x : Str) (C : Addr) (sp : Sp) : Prop :=
  ∃ f, FnR P w K mg base (L2.CX P w) k f sp ∧ mg x = some (.ref C) ∧ Mk K C f
theorem Met.opr {k : Nat} {C : Addr} {m : Str} {sp : Sp} (h : Met P w K mg base k C m sp) : ∃ g, Opr K C m g ∧ FnR P w K mg base (L2.CX P w) k g sp := by
  obtain ⟨f, F, M⟩ := h
  exact ⟨f, ⟨M.at_, M.fn⟩, F⟩
/-- a def whose body lets nothing out -/
theorem fnR0 {x qual : Str} {st : Stmt} {f : Addr} {fd : FuncData} {N ps : List Str} {k : Nat} {sp : Sp} (F : Fun K x qual st f fd) (b : Binds K fd ps []) (S : FnScope N ps (defScope st)) (len : ∀ vs H Q E, sp vs H Q E → vs.length = ps.length)
    (hbody : ∀ (cdv : Value) (A : Around) (outer : List Env) (s : Shared) (H : Hp) (vs : List V) (Q : VK) (E : XK), Room k (A.deeper (envOfC qual (defScope st) s.heap.objs.size f cdv)) → sp vs H Q E →
      ∃ t, PSs (cxOf (L2.CX P w) P w K mg base N qual (defScope st) f cdv A outer s H E).nox (defBody st) t ∧ t { nx := fun _ H' => Q .non H', rt := Q } (start N vs) H) : FnR P w K mg base (L2.CX P w) (k + 1) f sp := by
  have G := F.okX (P := P) (w := w) (mg := mg) (base := base) S len fun cdv A outer s H vs Q E hr h => let ⟨t, a, b⟩ := hbody cdv A outer s H vs Q E hr h; ⟨t, a.nox, b⟩
  exact (G.raw b .nil).imp fun vs H Q E h => by rw [List.append_nil]; exact h
end
section
variable {X : Cx} {E : XK} {k j : Nat} {C : Addr} {x m : Str} {sp : Sp} {p pos apos : Pos} {e o : Expr} {es : List Expr} {ta : TE} {t : TA}
/-- f(e, ..) -/
def tCl (sp : Sp) (E : XK) (t : TA) : TE := fun σ H Q => t σ H fun vs H1 => sp vs H1 Q E
theorem pe_cl (c : Cal X.prog X.w X.K X.mg X.base k x sp) (hr : Room j X.A) (hx : Passes (L2.CX X.prog X.w) X E) (ha : PA X (e :: es) t) (hk : k ≤ j := by decide) (hg : Gl X x := by rfl)
    (hdb : (x == ("__debug__" : Str)) = false := by decide) (he : starEach (e :: es) X.env = (false, eval e X.env) :: starEach es X.env := by rfl) (hpl : (backTo pos (starEach es X.env)).any (·.1) = false := by rfl) :
    PE X (.Call (.Name x p) (e :: es) [] pos) (tCl sp E t) := by
  obtain ⟨f, F, hm, kp⟩ := c
  refine ⟨fun pins s σ H Q I h => ?_⟩
  refine wpAny_Call_Name_kw (ld_glob I hg hm ?_ hdb)
  refine PySem.W.callWith_K (h₀ := X.base) I.ok.mod.kin kp (thn (ha.run pos pins s σ H _ I h) fun us s1 ⟨vs, H1, I1, r1, q1⟩ => ?_) he hpl
  exact ⟨I1.kIn, wpAny_call (run_fnR F (hr.mono hk) hx I1 r1 q1)⟩
/-- o.m(e, ..), o an instance of C -/
theorem pe_me {pl : Sem Bool} (he : PE X o ta) (c : Cls X.K C) (M : Met X.prog X.w X.K X.mg X.base k C m sp) (hr : Room j X.A) (hx : Passes (L2.CX X.prog X.w) X E) (ha : PA X (e :: es) t) (hk : k ≤ j := by decide)
    (hst : starEach (e :: es) X.env = (false, eval e X.env) :: starEach es X.env := by rfl) (hpl : (backTo pos (starEach es X.env)).any (·.1) = false := by rfl)
    (ht : eval (.Call (.Attribute o m apos) (e :: es) [] pos) X.env = (do
      let ov ← eval o X.env
      standAt apos.atName
      let (f, first) ← holding [ov] (getMethod ov m pl)
      callWith pos f first (backTo pos (starEach (e :: es) X.env)) (backToKw pos (keywordEach [] X.env))) := by rfl) :
    PE X (.Call (.Attribute o m apos) (e :: es) [] pos) (tMethR C m sp E ta t) := by
  obtain ⟨f, F, hm⟩ := M
  exact pe_methR (pl := pl) he c hm F (hr.mono hk) hx ha hst hpl ht
theorem pe_me0 {pl : Sem Bool} (he : PE X o ta) (c : Cls X.K C) (M : Met X.prog X.w X.K X.mg X.base k C m sp) (hr : Room j X.A) (hx : Passes (L2.CX X.prog X.w) X E) (hk : k ≤ j := by decide)
    (ht : eval (.Call (.Attribute o m apos) [] [] pos) X.env = (do
      let ov ← eval o X.env
      standAt apos.atName
      let (f, first) ← holding [ov] (getMethod ov m pl)
      callWith pos f first (backTo pos (starEach [] X.env)) (backToKw pos (keywordEach [] X.env))) := by rfl) :
    PE X (.Call (.Attribute o m apos) [] [] pos) (tMethR C m sp E ta tNil) := by
  obtain ⟨f, F, hm⟩ := M
  refine ⟨fun pins s σ H Q I h => ?_⟩
  refine PySem.W.methodCall_KW (pl := pl) (thn (he.run pins s σ H _ I h) fun u s1 ⟨x, H1, I1, rx, a, dx, fs, ex, ea, l, q⟩ => ?_) ht
  subst ex
  obtain rfl : u = Value.ref a := rx
  refine getmeth_ok I1 ea c hm l ?_
  exact PySem.W.callWith_K0 (first := [.ref a]) I1.kIn hm.kp (wpAny_call (run_fnR (us := [.ref a]) (vs := [.ref a]) F (hr.mono hk) hx I1 (.cons rfl .nil) q))
/-- C(e, ..) -/
theorem pe_ma (M : Mak X.prog X.w X.K X.mg X.base k x C sp) (hr : Room j X.A) (hx : Passes (L2.CX X.prog X.w) X E) (ha : PA X (e :: es) t) (hk : k + 1 ≤ j := by decide) (hg : Gl X x := by rfl) (hdb : (x == ("__debug__" : Str)) = false := by decide)
    (he : starEach (e :: es) X.env = (false, eval e X.env) :: starEach es X.env := by rfl) (hpl : (backTo pos (starEach es X.env)).any (·.1) = false := by rfl) : PE X (.Call (.Name x p) (e :: es) [] pos) (StX.tMakeR C sp E t) := by
  obtain ⟨f, F, hm, mk⟩ := M
  exact StX.pe_makeR mk F (hr.mono hk) hg hm hx ha hdb he hpl
/-- x(e, ..), x an expression that gives an instance of C with __call__ -/
def tCallI (C : Addr) (sp : Sp) (E : XK) (tf : TE) (t : TA) : TE := fun σ H Q => tf σ H fun y H1 => ∃ a, y = V.ref a ∧ t σ H1 fun vs H2 => (∃ dx fs, H2 a = some (.ins C dx fs)) ∧ sp (V.ref a :: vs) H2 Q E
theorem pe_callM {fe : Expr} {tf : TE} (hf : PE X fe tf) (M : Met X.prog X.w X.K X.mg X.base k C "__call__" sp) (fi : ∀ g, Opr X.K C "__call__" g → PySem.W.fnIn X.K g = true) (hr : Room j X.A) (hx : Passes (L2.CX X.prog X.w) X E) (ha : PA X (e :: es) t) (hk : k ≤ j := by decide)
    (ht : eval (.Call fe (e :: es) [] pos) X.env = (do callWith pos (← eval fe X.env) [] (backTo pos (starEach (e :: es) X.env)) (backToKw pos (keywordEach [] X.env))) := by rfl)
    (he : starEach (e :: es) X.env = (false, eval e X.env) :: starEach es X.env := by rfl) (hpl : (backTo pos (starEach es X.env)).any (·.1) = false := by rfl) : PE X (.Call fe (e :: es) [] pos) (tCallI C sp E tf t) := by
  obtain ⟨g, o, F⟩ := M.opr
  have c : StX.CallO X.K C g := ⟨o.at_, o.fn, fi g o⟩
  refine ⟨fun pins s σ H Q I h => ?_⟩
  refine PyProof.Rows.Call_ (thn (hf.run pins s σ H _ I h) fun u s1 ⟨y, H1, I1, ry, a, ey, q⟩ => ?_) ht
  subst ey
  obtain rfl : u = Value.ref a := ry
  refine StX.callO_with (thn (ha.run pos pins s1 σ H1 _ I1 q) fun us s2 ⟨vs, H2, I2, r, hi, q2⟩ => ?_) he hpl
  have hi' : StX.InsC X H2 a C := .inr hi
  obtain ⟨ox, od, J, hd⟩ := StX.insC_at I2 hi'
  exact ⟨⟨C, ox, od, J, hd⟩, StX.run_callO c F (hr.mono hk) hx I2 hi' r q2⟩
end
end Hf
namespace PySem
open Sem (wp)
open Builtin
end PySem
namespace PySem.W
open PySem
end PySem.W
namespace PySem.W
open PySem
section
variable {prog : Program} {w : World} {A : Around} {E : Value → Shared → Prop} {s : Shared} {K : Frag} {x C L f : Addr} {h₀ : Heap} {m : Str → Option Value} {ox : Obj} {od : Option Obj} {nm T : String} {b : Value} {id : String}
/-- the class has the mro C, object -/
def plainMro (K : Frag) (C : Addr) : Bool := (clsIn K C).any fun cd => cd.mro == [.ref C, .type "object"]
end
end PySem.W
namespace Hf
open PySem PySem.Spec PyProof.Rows L2
end Hf
namespace Hf
open PySem PySem.Spec PyProof.Rows L2
/-! ### the bag of a law: a dict of four keys -/
abbrev kk (x : Str) : Key := Sum.inr x
def bagD (c : Addr) (a r s : Int) : List (Key × V) := [(kk "cells", .ref c), (kk "at", .int a), (kk "rest", .int r), (kk "state", .int s)]
/-- a bag stands at b -/
def BagC (H : Hp) (b c : Addr) : Prop := ∃ (cs : List Int) (a r s : Int), H b = some (.dK (bagD c a r s)) ∧ H c = some (.lst (cs.map V.int)) ∧ cs.length ≤ 63 ∧ 0 ≤ a ∧ 0 ≤ r ∧ 0 ≤ s ∧ s < 2147483647
def Bag (H : Hp) (b : Addr) : Prop := ∃ c : Addr, BagC H b c
/-- all but the bag at b stays -/
def Keep (b : Addr) (H H' : Hp) : Prop := ∀ a o, H a = some o → a ≠ b → H' a = some o
theorem Keep.refl {b : Addr} {H : Hp} : Keep b H H := fun _ _ h _ => h
theorem Keep.trans {b : Addr} {H H1 H2 : Hp} (x : Keep b H H1) (y : Keep b H1 H2) : Keep b H H2 := fun a o h n => y a o (x a o h n) n
theorem Keep.of {b : Addr} {H H1 : Hp} (x : Same H H1) : Keep b H H1 := fun a o h _ => x a o h
theorem Keep.put {b : Addr} {H H1 : Hp} {o : HO} (x : Keep b H H1) : Keep b H (upd H1 b o) := fun a u h n => by rw [upd_ne n]; exact x a u h n
theorem Same.new {H : Hp} {p : Addr} {o : HO} (h : H p = none) : Same H (upd H p o) := fun a u e => by rw [upd_ne (ne_of_none e h)]; exact e
theorem Bag.same {b : Addr} {H H' : Hp} (h : Bag H b) (e : Same H H') : Bag H' b := by
  obtain ⟨c, cs, a, r, s, h1, h2, q⟩ := h
  exact ⟨c, cs, a, r, s, e _ _ h1, e _ _ h2, q⟩
theorem BagC.same {b c : Addr} {H H' : Hp} (h : BagC H b c) (e : Same H H') : BagC H' b c := by
  obtain ⟨cs, a, r, s, h1, h2, q⟩ := h
  exact ⟨cs, a, r, s, e _ _ h1, e _ _ h2, q⟩
/-- a thing that is neither the bag nor its cells is changed -/
theorem BagC.keep {b c p : Addr} {H H' : Hp} (h : BagC H b c) (e : Keep p H H') (n1 : p ≠ b) (n2 : p ≠ c) : BagC H' b c := by
  obtain ⟨cs, a, r, s, h1, h2, q⟩ := h
  exact ⟨cs, a, r, s, e _ _ h1 n1.symm, e _ _ h2 n2.symm, q⟩
theorem BagC.ne {b c p : Addr} {H : Hp} (h : BagC H b c) (n : H p = none) : p ≠ b ∧ p ≠ c := by
  obtain ⟨cs, a, r, s, h1, h2, q⟩ := h
  exact ⟨(ne_of_none h1 n).symm, (ne_of_none h2 n).symm⟩
theorem Bag.some {b : Addr} {H : Hp} (h : Bag H b) : ∃ o, H b = some o := by
  obtain ⟨c, cs, a, r, s, h1, _⟩ := h
  exact ⟨_, h1⟩
theorem Bag.ne {b p : Addr} {H : Hp} (h : Bag H b) (n : H p = none) : p ≠ b := by
  obtain ⟨o, e⟩ := h.some
  exact (ne_of_none e n).symm
end Hf
namespace Hf
open PySem PySem.Spec PyProof.Rows L2
/-! ### the reading of the two defs of a bag, of any constants -/
theorem p1018 : ((10 : Int) ^ (18 : Int).toNat) = 1000000000000000000 := by decide
theorem nat_lt_64 {i : Int} (h0 : 0 ≤ i) (h : i < 18446744073709551616) : i.natAbs < 2 ^ 64 := by
  rw [show (2 : Nat) ^ 64 = 18446744073709551616 from rfl]
  omega
theorem lim_div {n : Int} (h0 : 0 < n) (h1 : n ≤ 10 ^ 40) (i : Int) : CDivW i n := by
  refine wide_div (b := 200) h0 ?_ (by decide) (by decide)
  have h2 : (10 : Int) ^ 40 = 10000000000000000000000000000000000000000 := by decide
  have h3 : (2 : Nat) ^ 200 = 1606938044258990275541962092341162602522202993782792835301376 := by decide
  rw [h2] at h1
  rw [h3]
  omega
end Hf
namespace Hf
open PySem PySem.Spec PyProof.Rows L2
theorem cut63 (ns : List Int) (h : ns.length ≤ 63) : ∃ ms : List Int, cutV (ns.map V.int) none (some 63) = ms.map V.int ∧ ms.length ≤ 63 := by
  unfold cutV
  rw [← List.map_drop, ← List.map_take]
  refine ⟨_, rfl, ?_⟩
  rw [List.length_take, List.length_drop]
  omega
end Hf
namespace Hf
open PySem PySem.Spec PyProof.Rows L2
/-- a def of the module without defaults as it stands behind the top -/
def DefAt (K : PySem.W.Frag) (mg : Str → Option Value) (x : Str) (st : Stmt) (ps : List Str) : Prop := ∃ (f : Addr) (fd : FuncData), mg x = some (.ref f) ∧ Fun K x x st f fd ∧ Binds K fd ps []
/-- a def of the class at C -/
def MetAt (K : PySem.W.Frag) (C : Addr) (m qual : Str) (st : Stmt) (ps : List Str) : Prop := ∃ (f : Addr) (fd : FuncData), Meth K C m f ∧ Fun K m qual st f fd ∧ Binds K fd ps []
end Hf
namespace Hf
open PySem PySem.Spec PyProof.Rows L2
end Hf
namespace Hf
open PySem PySem.Spec PyProof.Rows L2
section
variable {X : Cx} {pos : Pos}
theorem pe_tInt (hm : X.mg "int" = none) (hg : Gl X "int" := by rfl) : PE X (.Name "int" pos) (tC (.ty "int")) := pe_bltn (v := .ty "int") (u := .type "int") hg hm (by decide +kernel) rfl
theorem pe_tBool (hm : X.mg "bool" = none) (hg : Gl X "bool" := by rfl) : PE X (.Name "bool" pos) (tC (.ty "bool")) := pe_bltn (v := .ty "bool") (u := .type "bool") hg hm (by decide +kernel) rfl
end
end Hf
namespace Hf
open PySem PySem.Spec PyProof.Rows L2
/-! ### whole numbers -/
/-- is_whole(value) -/
def spWhole (K : PySem.W.Frag) : Sp := fun vs H Q _ => ∃ (v : V) (t : Value) (b1 b2 : Bool), vs = [v] ∧ TyX K H v t ∧ PySem.W.kitOne K t (.type "int") = some b1 ∧ PySem.W.kitOne K t (.type "bool") = some b2 ∧ Q (.bl (b1 && !b2)) H
section
variable {K : PySem.W.Frag} {H : Hp} {Q : VK} {E : XK}
theorem wh_int {i : Int} (q : Q (.bl true) H) : spWhole K [.int i] H Q E := ⟨_, _, true, false, rfl, .base (.int i), by kernel_rfl, by kernel_rfl, q⟩
end
/-! ### places -/
/-- not above 10 ^ 60 -/
abbrev Sm (x : Int) : Prop := -1000000000000000000000000000000000000000000000000000000000000 ≤ x ∧ x ≤ 1000000000000000000000000000000000000000000000000000000000000
theorem Sm.nat {x : Int} (h : Sm x) : x.natAbs < 2 ^ 200 := by
  rw [show (2 : Nat) ^ 200 = 1606938044258990275541962092341162602522202993782792835301376 from by decide]
  have := h.1
  have := h.2
  omega
theorem Sm.mul {x y : Int} (h : Sm x) (h' : Sm y) : CMulW x y := wide_mul h.nat h'.nat (by decide) (by decide) (by decide)
def plF (s o d : Int) : List (Str × V) := [("slope", .int s), ("offset", .int o), ("odd", .int d)]
def PlaceAt (C : Addr) (H : Hp) (p : Addr) (s o d : Int) : Prop := ∃ dx, H p = some (.ins C dx (plF s o d))
theorem PlaceAt.same {C : Addr} {H H' : Hp} {p : Addr} {s o d : Int} (h : PlaceAt C H p s o d) (e : Same H H') : PlaceAt C H' p s o d := let ⟨dx, h⟩ := h; ⟨dx, e _ _ h⟩
theorem PlaceAt.keep {C b : Addr} {H H' : Hp} {p : Addr} {s o d : Int} (h : PlaceAt C H p s o d) (e : Keep b H H') (n : p ≠ b) : PlaceAt C H' p s o d := let ⟨dx, h⟩ := h; ⟨dx, e _ _ h n⟩
theorem f_so : ¬ ("slope" : Str) = "offset" := by decide +kernel
theorem f_sd : ¬ ("slope" : Str) = "odd" := by decide +kernel
theorem f_od : ¬ ("offset" : Str) = "odd" := by decide +kernel
theorem lk_hit {f : Str} {v : V} {r : List (Str × V)} : List.lookup f ((f, v) :: r) = some v := by simp [List.lookup]
theorem lk_miss {f g : Str} {v : V} {r : List (Str × V)} (h : ¬ g = f) : List.lookup f ((g, v) :: r) = List.lookup f r := by
  have h' : (f == g) = false := by simpa using fun e => h e.symm
  simp [List.lookup, h']
theorem lk_nil {f : Str} : List.lookup f ([] : List (Str × V)) = none := rfl
theorem pl_slope {s o d : Int} : List.lookup ("slope" : Str) (plF s o d) = some (.int s) := lk_hit
theorem pl_offset {s o d : Int} : List.lookup ("offset" : Str) (plF s o d) = some (.int o) := (lk_miss f_so).trans lk_hit
theorem pl_odd {s o d : Int} : List.lookup ("odd" : Str) (plF s o d) = some (.int d) := (lk_miss f_sd).trans ((lk_miss f_od).trans lk_hit)
theorem pf_nil {f : Str} {v : V} : putF f v [] = [(f, v)] := rfl
theorem pf_miss {f g : Str} {v x : V} {r : List (Str × V)} (h : ¬ g = f) : putF f v ((g, x) :: r) = (g, x) :: putF f v r := if_neg h
theorem pl_make {s o d : Int} : putF "odd" (.int d) (putF "offset" (.int o) (putF "slope" (.int s) [])) = plF s o d := by
  rw [pf_nil, pf_miss f_so, pf_nil, pf_miss f_sd, pf_miss f_od, pf_nil]
  rfl
/-- what the written part says of Place, at C -/
structure PlC (K : PySem.W.Frag) (mg : Str → Option Value) (C : Addr) : Prop where
  cl : Cls K C
  n1 : NoAttr K C "slope"
  n2 : NoAttr K C "offset"
  n3 : NoAttr K C "odd"
  g : mg "Place" = some (.ref C)
  sf : PySem.W.selfFirst K C = true
  pm : PySem.W.plainMro K C = true
  ne : NeC K C
  ha : PySem.W.findIn K (.ref C) "__class__" = some (some (.builtin "object.__class__"))
  hn : PySem.W.specialIn K (.builtin "object.__class__") "__get__" = some (some (.builtin "getset_descriptor.__get__"))
  tk : PySem.W.takesIn K (.builtin "object.__class__") = some true
  mo : PySem.W.mroIn K C (.type "object") = some true
  kI : PySem.W.kitOne K (.type "int") (.ref C) = some false
  sI : PySem.W.subIn K (.ref C) (.type "int") = some false
  iA : OprI K C "add"
  iS : OprI K C "sub"
  hi : PySem.W.findIn K (.ref C) "__iadd__" = some none
theorem PlC.ty {K : PySem.W.Frag} {mg : Str → Option Value} {C : Addr} (T : PlC K mg C) {H : Hp} {p dx : Addr} {fs : List (Str × V)} (h : H p = some (.ins C dx fs)) : TyX K H (.ref p) (.ref C) := .base (.ins h T.cl T.ha T.hn T.tk T.mo)
theorem kit_self {K : PySem.W.Frag} {C : Addr} : PySem.W.kitOne K (.ref C) (.ref C) = some true := by
  unfold PySem.W.kitOne
  simp
/-- value_at(slope, offset, odd, size) -/
def spVal : Sp := fun vs H Q _ => ∃ s o d n : Int, vs = [.int s, .int o, .int d, .int n] ∧ Sm s ∧ Sm d ∧ Sm n ∧ Q (.int (s * (n / 2) + o + d * (n % 2))) H
/-- a new place of these three is handed back -/
def NewPl (C : Addr) (H : Hp) (s o d : Int) (Q : VK) : Prop := ∀ (p : Addr) (H' : Hp), H p = none → PlaceAt C H' p s o d → Same H H' → Q (.ref p) H'
/-- C(..) is made: what is asked of its __init__ -/
def MakeK (C : Addr) (sp : Sp) (E : XK) (Q : VK) : List V → Hp → Prop := fun vs H1 => ∀ x dx, H1 x = none → H1 dx = none → dx ≠ x → sp (.ref x :: vs) (upd (upd H1 dx (.own x)) x (.ins C dx [])) (fun v H2 => v = .non ∧ Q (.ref x) H2) E
end Hf
namespace Hf
open PySem PySem.Spec PyProof.Rows L2
section
variable {K : PySem.W.Frag} {X : Cx} {σ : L2.St} {H : Hp} {Q : VK} {i : Nat} {v x y : V} {ta tb te tf tv : TE} {r : R2} {tt tu : TT} {t u : TA} {s1 s2 tb1 : TS} {D : Ends} {g : TG} {gs : TGs} {QA : List V → Hp → Prop} {QB : Bool → Hp → Prop} {sp : Sp} {E : XK} {C a p dx : Addr} {m f : Str} {fs : List (Str × V)} {QG : L2.St → Hp → Prop}
theorem rd_cl (q : t σ H fun vs H1 => sp vs H1 Q E) : tCl sp E t σ H Q := q
theorem rd_methR (q : ta σ H fun x H1 => ∃ a dx fs, x = .ref a ∧ H1 a = some (.ins C dx fs) ∧ fs.lookup m = none ∧ t σ H1 fun vs H2 => sp (x :: vs) H2 Q E) : tMethR C m sp E ta t σ H Q := q
theorem rd_makeR (q : t σ H (MakeK C sp E Q)) : StX.tMakeR C sp E t σ H Q := q
theorem rd_callO (q : tf σ H fun y H1 => ∃ a, y = V.ref a ∧ t σ H1 fun vs H2 => (∃ dx fs, H2 a = some (.ins C dx fs)) ∧ sp (V.ref a :: vs) H2 Q E) : tCallI C sp E tf t σ H Q := q
theorem rd_fld (q : ta σ H fun x H1 => ∃ a C dx fs v, x = .ref a ∧ H1 a = some (.ins C dx fs) ∧ Cls K C ∧ NoAttr K C f ∧ fs.lookup f = some v ∧ Q v H1) : tFld K ta f σ H Q := q
theorem rd_sfld (q : tv σ H fun y H1 => ta σ H1 fun x H2 => ∃ a C dx fs, x = .ref a ∧ H2 a = some (.ins C dx fs) ∧ Cls K C ∧ NoAttr K C f ∧ fs.length < 1000 ∧ D.nx σ (upd H2 a (.ins C dx (putF f y fs)))) : sFld K ta tv f D σ H := q
theorem rd_gnil (q : QG σ H) : gNil [] σ H QG := ⟨rfl, q⟩
theorem rd_gcons {vs : List V} (q : g v σ H fun σ' H' => gs vs σ' H' QG) : gCons g gs (v :: vs) σ H QG := ⟨v, vs, rfl, q⟩
theorem rd_gtup {n : Nat} {xs : List V} (h : SqT K H a xs) (hl : xs.length = n) (q : gs xs σ H QG) : gTup K n gs (.ref a) σ H QG := ⟨a, xs, rfl, h, hl, q⟩
/-- e.f of a tracked instance -/
theorem rd_fldK {v : V} {QQ : V → Prop} (h : H a = some (.ins C dx fs)) (c : Cls K C) (n : NoAttr K C f) (l : fs.lookup f = some v) (q : QQ v) : ∃ a' C dx fs v, V.ref a = .ref a' ∧ H a' = some (.ins C dx fs) ∧ Cls K C ∧ NoAttr K C f ∧ fs.lookup f = some v ∧ QQ v := ⟨a, C, dx, fs, v, rfl, h, c, n, l, q⟩
theorem rd_isi {t u : Value} {b : Bool} {c : V} (hc : ClsV c u) (ty : TyX K H x t) (k : PySem.W.kitOne K t u = some b) (q : Q (.bl b) H) : rIsi K [x, c] H Q := ⟨x, c, t, u, b, rfl, hc, ty, k, q⟩
theorem rd_par2 {j : Nat} {w' : V} (q : D.nx ((σ.set i (some v)).set j (some w')) H) : ∃ v' w, [v, w'] = [v', w] ∧ D.nx ((σ.set i (some v')).set j (some w)) H := ⟨v, w', rfl, q⟩
theorem rd_aug {ti : TIp} (h : σ[i]? = some (some x)) (q : te σ H fun y H1 => ti x y H1 fun z H2 => D.nx (σ.set i (some z)) H2) : tAug i te ti D σ H := ⟨x, h, q⟩
def ForK (g : TG) (tb : TS) (D : Ends) (σ : L2.St) : It → Hp → Prop := fun J H1 => ∃ W : Nat → Nat → L2.St → Hp → Prop, (∃ m, W 0 m σ H1) ∧ ∀ i m σ H, W i m σ H →
  (J.stop i H ∧ D.nx σ H) ∨ (J.go i H ∧ ∃ N : L2.St → Hp → Prop, (∀ σ' H', N σ' H' → ∃ m', m' < m ∧ W (i + 1) m' σ' H') ∧ ∀ x H', J.yld i H x H' → g x σ H' fun σ2 H2 => tb { D with nx := N, ct := N, bk := D.nx } σ2 H2)
theorem rd_for {wi : TI} (q : wi σ H (ForK g tb1 D σ)) : tFor wi g tb1 D σ H := q
theorem rd_iList {R : It → Hp → Prop} (q : ta σ H fun x H1 => ∃ a, x = .ref a ∧ (∃ xs, SqL K H1 a xs) ∧ R (Itl K a) H1) : iList K ta σ H R := q
theorem rd_iTup {R : It → Hp → Prop} (q : ta σ H fun x H1 => ∃ a, x = .ref a ∧ (∃ xs, SqT K H1 a xs) ∧ R (Itt K a) H1) : iTup K ta σ H R := q
theorem rd_iRng1 {R : It → Hp → Prop} (q : t σ H fun vs H1 => ∃ j : Int, vs = [.int j] ∧ -(2 ^ 62) ≤ j ∧ j < 2 ^ 62 ∧ R (Itr 0 j.toNat) H1) : iRng1 t σ H R := q
theorem rd_iRng2 {R : It → Hp → Prop} (q : t σ H fun vs H1 => ∃ i j : Int, vs = [.int i, .int j] ∧ (-(2 ^ 62) ≤ i ∧ i < 2 ^ 62 ∧ -(2 ^ 62) ≤ j ∧ j < 2 ^ 62) ∧ R (Itr i (j - i).toNat) H1) : iRng2 t σ H R := q
end
end Hf
namespace Hf
open PySem PySem.Spec PyProof.Rows L2
/-- what a place is at a size -/
def plv (s o d n : Int) : Int := s * (n / 2) + o + d * (n % 2)
/-! ### displays with the heap as a letter -/
def NewL (Q : VK) (xs : List V) (H : Hp) : Prop := xs.length ≤ sizeLine ∧ ∀ p, H p = none → Q (.ref p) (upd H p (.lst xs))
def NewT (Q : VK) (xs : List V) (H : Hp) : Prop := xs.length ≤ sizeLine ∧ ∀ p, H p = none → Q (.ref p) (upd H p (.tup xs))
section
variable {K : PySem.W.Frag} {σ : L2.St} {H : Hp} {Q : VK} {t : TA} {xs ys : List V} {p q : Addr}
theorem rd_lstN (q : t σ H (NewL Q)) : tLst t σ H Q := q
theorem rd_tupN (q : t σ H (NewT Q)) : tTup t σ H Q := q
theorem new_lst (hl : xs.length ≤ 1000) (k : ∀ p H', H p = none → H' p = some (.lst xs) → Same H H' → Q (.ref p) H') : NewL Q xs H := ⟨Nat.le_of_lt (small1000 hl), fun p hp => k p _ hp upd_same (Same.new hp)⟩
theorem new_tup (hl : xs.length ≤ 1000) (k : ∀ p H', H p = none → H' p = some (.tup xs) → Same H H' → Q (.ref p) H') : NewT Q xs H := ⟨Nat.le_of_lt (small1000 hl), fun p hp => k p _ hp upd_same (Same.new hp)⟩
theorem dp_ints {H : Hp} : ∀ xs : List Int, DpAll K H (xs.map V.int) (xs.map PyData.int)
  | [] => .nil
  | x :: xs => .cons (.int x) (dp_ints xs)
theorem lay_ints : ∀ xs : List Int, PyData.canLayAll0 (xs.map PyData.int) = true
  | [] => by simp [PyData.canLayAll0]
  | x :: xs => by
    have := lay_ints xs
    simp [PyData.canLayAll0, PyData.canLay0, this]
theorem dep_ints : ∀ xs : List Int, PyData.depthAll (xs.map PyData.int) = 0
  | [] => by simp [PyData.depthAll]
  | x :: xs => by
    have := dep_ints xs
    simp [PyData.depthAll, PyData.depth, this]
theorem can_ints (xs : List Int) : PyData.canLay0 (.list (xs.map PyData.int)) = true := by
  simpa [PyData.canLay0] using lay_ints xs
theorem shp_ints (xs : List Int) : SeqAt.shaped (.list (xs.map PyData.int)) = true := by
  unfold SeqAt.shaped
  rw [can_ints]
  simp [PyData.depth, dep_ints]
end
end Hf
namespace Hf
open PySem PySem.Spec PyProof.Rows L2
/-- law's: a list of at most 63 ints is handed in, True comes out -/
def spLaw (K : PySem.W.Frag) : Sp := fun vs H Q _ => ∃ (a : Addr) (ns : List Int), vs = [.ref a] ∧ SqL K H a (ns.map V.int) ∧ ns.length ≤ 63 ∧ ∀ H', Q (.bl true) H'
end Hf
namespace Hf
open PySem PySem.Spec PyProof.Rows L2
section
variable {K : PySem.W.Frag} {h : Heap} {mg : Str → Option Value} {f C T : Addr} {od an : Option Addr} {osl : Array (Option Value)} {oc kV doc pm cdv ct : Value}
/-- a def of the top -/
theorem defAt_mk {x : Str} {st : Stmt} {ps : List Str} (X : K.In h) (G : h.Ns mainGlobals mg) (a : PySem.W.nsIn K mainGlobals x = some (some (.ref f)))
    (l : K.lookup f = some ⟨oc, od, .func (PySem.W.fnOf x x (defArgs st) (defBody st) (defScope st) .none kV doc pm an cdv ct), osl⟩) (c : PySem.W.codeIn K cdv x = true) (k : PySem.W.keepIn K (.ref f) = true)
    (hb : ∀ (kV doc pm : Value) (an : Option Addr) (cdv ct : Value) (us : List Value), us.length = ps.length → bindArgs (PySem.W.fnOf x x (defArgs st) (defBody st) (defScope st) .none kV doc pm an cdv ct) ⟨us, []⟩ = pure (ps.zip us)) : DefAt K mg x st ps :=
  have F := fun_mk (st := st) l c k
  ⟨f, _, PySem.W.mg_of X G a, F, F.binds hb⟩
theorem metAt_mk {m qual : Str} {st : Stmt} {ps : List Str} (a : PySem.W.findIn K (.ref C) m = some (some (.ref f))) (i : PySem.W.isFn K (.ref f) = true)
    (l : K.lookup f = some ⟨oc, od, .func (PySem.W.fnOf m qual (defArgs st) (defBody st) (defScope st) .none kV doc pm an cdv ct), osl⟩) (c : PySem.W.codeIn K cdv qual = true) (k : PySem.W.keepIn K (.ref f) = true)
    (hb : ∀ (kV doc pm : Value) (an : Option Addr) (cdv ct : Value) (us : List Value), us.length = ps.length → bindArgs (PySem.W.fnOf m qual (defArgs st) (defBody st) (defScope st) .none kV doc pm an cdv ct) ⟨us, []⟩ = pure (ps.zip us)) : MetAt K C m qual st ps :=
  have F := fun_mk (st := st) l c k
  ⟨f, _, ⟨a, i, k⟩, F, F.binds hb⟩
/-- a def with one default that is a whole number -/
theorem funD1_mk {x qual : Str} {st : Stmt} {i : Int} {tk : Tok} {c2 : Value} {d2 : Option Addr} {n2 : Nat} {sl2 : Array (Option Value)}
    (l : K.lookup f = some ⟨oc, od, .func (PySem.W.fnOf x qual (defArgs st) (defBody st) (defScope st) (.ref T) kV doc pm an cdv ct), osl⟩) (lT : K.lookup T = some ⟨c2, d2, .seq #[.int i tk] n2, sl2⟩) (c : PySem.W.codeIn K cdv qual = true) (k : PySem.W.keepIn K (.ref f) = true) :
    FunD K x qual (defArgs st) (defBody st) (defScope st) [.int i] [] f (PySem.W.fnOf x qual (defArgs st) (defBody st) (defScope st) (.ref T) kV doc pm an cdv ct) :=
  ⟨⟨oc, od, .ref T, kV, doc, pm, an, cdv, ct, osl, rfl, l, c, .inr ⟨fun z => (nomatch z), T, _, [.int i tk], n2, rfl, lT, rfl, .cons ⟨tk, rfl⟩ .nil⟩, .inl rfl⟩, k⟩
/-- every parameter is given -/
theorem FunD.full {x qual : Str} {params : Arguments} {body : List Stmt} {scope : Scope} {v : V} {fd : FuncData} {ps : List Str} (F : FunD K x qual params body scope [v] [] f fd)
    (hb : ∀ (T : Addr) (kV doc pm : Value) (an : Option Addr) (cdv ct : Value) (us its : List Value), us.length = ps.length → its.length = 1 →
      ∃ k, bindArgs (PySem.W.fnOf x qual params body scope (.ref T) kV doc pm an cdv ct) ⟨us, []⟩ = seqItems? (.ref T) >>= k ∧ k (some its.toArray) = pure (ps.zip (us ++ its.drop 1))) : Binds K fd ps [] := by
  obtain ⟨ds, r, b⟩ := F.binds1 (ps := ps) ps.length 1 (by simp) (by simp) (fun T kV doc pm an cdv ct us its h1 h2 => hb T kV doc pm an cdv ct us its h1 h2)
  cases r
  exact b
end
theorem fnOk0 {P : Program} {w : World} {K : PySem.W.Frag} {mg : Str → Option Value} {base : Heap} {x qual : Str} {st : Stmt} {f : Addr} {fd : FuncData} {N ps : List Str} {k : Nat} {sp : Sp} (F : Fun K x qual st f fd) (S : FnScope N ps (defScope st)) (len : ∀ vs H Q E, sp vs H Q E → vs.length = ps.length)
    (hbody : ∀ (cdv : Value) (A : Around) (outer : List Env) (s : Shared) (H : Hp) (vs : List V) (Q : VK) (E : XK), Room k (A.deeper (envOfC qual (defScope st) s.heap.objs.size f cdv)) → sp vs H Q E →
      ∃ t, PSs (cxOf (L2.CX P w) P w K mg base N qual (defScope st) f cdv A outer s H E).nox (defBody st) t ∧ t { nx := fun _ H' => Q .non H', rt := Q } (L2.start N vs) H) : FnOk P w K mg base (L2.CX P w) (k + 1) f fd ps sp :=
  F.okX (P := P) (w := w) (mg := mg) (base := base) S len fun cdv A outer s H vs Q E hr h => let ⟨t, a, b⟩ := hbody cdv A outer s H vs Q E hr h; ⟨t, a.nox, b⟩
theorem FnOk.all {P : Program} {w : World} {K : PySem.W.Frag} {mg : Str → Option Value} {base : Heap} {CX : CXT} {k : Nat} {f : Addr} {fd : FuncData} {ps : List Str} {sp : Sp} (G : FnOk P w K mg base CX k f fd ps sp) (b : Binds K fd ps []) : FnR P w K mg base CX k f sp :=
  (G.raw b .nil).imp fun vs H Q E h => by rw [List.append_nil]; exact h
theorem plainMro_mk {K : PySem.W.Frag} {C : Addr} {cd : ClassData} (c : PySem.W.clsIn K C = some cd) (m : cd.mro = [.ref C, .type "object"]) : PySem.W.plainMro K C = true := by
  unfold PySem.W.plainMro
  rw [c]
  simp [m]
theorem kitOne_mk {K : PySem.W.Frag} {C : Addr} {T : String} {b : Bool} (i : PySem.W.isClsIn K C = true) (t : PySem.W.typeIn K (.ref C) = some (.type "type")) (s : PySem.W.subIn K (.type T) (.ref C) = some b) : PySem.W.kitOne K (.type T) (.ref C) = some b := by
  have i' : (PySem.W.clsIn K C).isSome = true := i
  have e : (Value.type T == Value.ref C) = false := Bool.eq_false_iff.mpr fun q => by cases beq_iff_eq.mp q
  unfold PySem.W.kitOne PySem.W.kitCls
  rw [e, if_neg Bool.false_ne_true]
  dsimp only
  rw [i', t]
  simpa using s
theorem cx_no {P : Program} {w : World} {H : Hp} {s : Shared} {e : Value} {s' : Shared} (h : L2.CX P w [] H s (fun _ _ _ => False) e s') : False := by
  obtain ⟨_, _, _, _, _, _, _, _, _, _, _, _, z⟩ := h
  exact z.elim
end Hf
namespace Hf
open PySem PySem.Spec PyProof.Rows L2
/-! ### defs that want to know that no repr is running -/
/-- as FnR, called where nothing is being shown -/
def FnG (P : Program) (w : World) (K : PySem.W.Frag) (mg : Str → Option Value) (base : Heap) (CX : CXT) (k : Nat) (f : Addr) (sp : Sp) : Prop :=
  ∀ (A : Around) (outer : List Env) (s : Shared) (H : Hp) (us : List Value) (vs : List V) (Q : VK) (E : XK), Room k A → A.guards = some [] → Env0 P w K mg base A outer s H → Vals vs us → sp vs H Q E →
    codeAny (model P w) A (.call (.ref f) ⟨us, []⟩) (CR CX outer P w H s Q E) s
theorem FnR.g {P : Program} {w : World} {K : PySem.W.Frag} {mg : Str → Option Value} {base : Heap} {CX : CXT} {k : Nat} {f : Addr} {sp : Sp} (F : FnR P w K mg base CX k f sp) : FnG P w K mg base CX k f sp := fun A outer s H us vs Q E hr _ e0 r h => F A outer s H us vs Q E hr e0 r h
section
variable {P : Program} {w : World} {K : PySem.W.Frag} {mg : Str → Option Value} {base : Heap}
theorem fnG_of {CX : CXT} {k : Nat} {f : Addr} {name qual : Str} {params : Arguments} {body : List Stmt} {scope : Scope} {dV kV doc pm cdv ct oc : Value} {an od : Option Addr}
    {osl : Array (Option Value)} {N ps : List Str} {sp : Sp} (lk : K.lookup f = some ⟨oc, od, .func (PySem.W.fnOf name qual params body scope dV kV doc pm an cdv ct), osl⟩) (hcd : PySem.W.codeIn K cdv qual = true) (S : FnScope N ps scope)
    (b : Binds K (PySem.W.fnOf name qual params body scope dV kV doc pm an cdv ct) ps [])
    (len : ∀ vs H Q E, sp vs H Q E → vs.length = ps.length)
    (hbody : ∀ (A : Around) (outer : List Env) (s : Shared) (H : Hp) (vs : List V) (Q : VK) (E : XK), Room k (A.deeper (envOfC qual scope s.heap.objs.size f cdv)) → (A.deeper (envOfC qual scope s.heap.objs.size f cdv)).guards = some [] → sp vs H Q E →
      ∃ t, PSs (cxOf CX P w K mg base N qual scope f cdv A outer s H E) body t ∧ t { nx := fun _ H' => Q .non H', rt := Q } (L2.start N vs) H) :
    FnG P w K mg base CX (k + 1) f sp := by
  intro A outer s H us vs Q E hr hgd e0 r hsp
  have hl := len _ _ _ _ hsp
  have KX : K.In s.heap := e0.mod.kin.keeps fun b o e => (e0.bs b o e).1
  have lim : s.heap.NoLimit := e0.mod.nolimit.keeps fun b o e => (e0.bs b o e).1
  have hb : BindsTo s (PySem.W.fnOf name qual params body scope dV kV doc pm an cdv ct) ⟨us, []⟩ (ps.zip us) := by
    have e := b s us KX (by rw [List.append_nil, ← r.length]; exact hl)
    rw [List.append_nil] at e
    exact e
  have hkind : ∀ y ∈ ps.zip us, scope.names.lookup y.1 = some .local ∨ (scope.names.lookup y.1 = some .cell ∧ ((cellsFrom (s.heap.objs.size + 1) scope.names []).lookup y.1).isSome = true) := fun ⟨n, v⟩ hy => by
    rcases S.par n (List.of_mem_zip hy).1 with q | q
    · exact .inl q
    · exact .inr ⟨q, PySem.W.cellsFrom_some _ _ _ (.inl q)⟩
  refine codeAny_call_function hr.depth (KX _ _ lk) rfl S.co S.gen rfl (PySem.W.codeRec_of KX hcd) (hb _ _ _ _ ?_)
  refine wpAny_newFunctionEnv_cells S.kind hkind fun env he s1 x => ?_
  subst he
  refine ⟨lim.keeps x.toInCall.keep, codeAny_func ?_⟩
  obtain ⟨t, ht, hq⟩ := hbody A outer s H vs Q E (hr.deeper _) hgd hsp
  have I : Inv (cxOf CX P w K mg base N qual scope f cdv A outer s H E) [] (L2.start N vs) H s1 := inv_start S hr.hd e0 hl r x
  refine wpAny_mono (ht.run [] s1 (L2.start N vs) H _ I hq) (fun fl s' hs => ?_) fun e s' hs => hs
  have fin : ∀ {σ' : L2.St} {H' : Hp} {v : V} {u : Value}, Inv (cxOf CX P w K mg base N qual scope f cdv A outer s H E) [] σ' H' s' → RelV v u → Q v H' → CE outer P w H s Q u s' :=
    fun {σ' H' v u} J rv q => ⟨v, H', J.os, J.bare, J.base, J.hok, rv, q⟩
  cases fl with
  | ret u =>
    obtain ⟨v, σ', H', J, rv, q⟩ := hs
    exact fin J rv q
  | next =>
    obtain ⟨σ', H', J, q⟩ := hs
    exact fin (v := V.non) (u := Value.none) J rfl q
  | brk =>
    obtain ⟨_, _, _, q⟩ := hs
    exact False.elim q
  | cont =>
    obtain ⟨_, _, _, q⟩ := hs
    exact False.elim q
/-- a def whose body lets nothing out -/
theorem fnG0 {x qual : Str} {st : Stmt} {f : Addr} {fd : FuncData} {N ps : List Str} {k : Nat} {sp : Sp} (F : Fun K x qual st f fd) (b : Binds K fd ps []) (S : FnScope N ps (defScope st)) (len : ∀ vs H Q E, sp vs H Q E → vs.length = ps.length)
    (hbody : ∀ (cdv : Value) (A : Around) (outer : List Env) (s : Shared) (H : Hp) (vs : List V) (Q : VK) (E : XK), Room k (A.deeper (envOfC qual (defScope st) s.heap.objs.size f cdv)) → (A.deeper (envOfC qual (defScope st) s.heap.objs.size f cdv)).guards = some [] → sp vs H Q E →
      ∃ t, PSs (cxOf (L2.CX P w) P w K mg base N qual (defScope st) f cdv A outer s H E).nox (defBody st) t ∧ t { nx := fun _ H' => Q .non H', rt := Q } (L2.start N vs) H) : FnG P w K mg base (L2.CX P w) (k + 1) f sp := by
  obtain ⟨oc, od, kV, doc, pm, an, cdv, ct, osl, rfl, lk, hcd⟩ := F.ex
  exact fnG_of lk hcd S b len fun A outer s H vs Q E hr hg h => let ⟨t, a, b⟩ := hbody cdv A outer s H vs Q E hr hg h; ⟨t, a.nox, b⟩
end
end Hf
namespace Hf
open PySem PySem.Spec PyProof.Rows L2
theorem law_callG {P : Program} {w : World} {K : PySem.W.Frag} {mg mb : Str → Option Value} {CX : CXT} {k : Nat} {fa a : Addr} {sp : Sp} {s₁ : Shared} {vs : List Value} {ns : List Int}
    (KX : K.In s₁.heap) (hns : s₁.heap.Ns mainGlobals mg) (hb : s₁.heap.Ns builtinsNs mb) (hbb : ∀ x : Str, x ≠ "__name__" → mb x = bootBuiltins x) (hlim : s₁.heap.NoLimit) (hg : s₁.gens = #[])
    (ha : s₁.heap.get? a = some { cls := .type "list", data := .seq vs.toArray }) (hi : IntsAre vs ns) (hl : ns.length ≤ sizeLine) (hr : Room k callerA)
    (F : ∀ base : Heap, K.In base → base.Ns mainGlobals mg → FnG P w K mg base CX k fa sp)
    (hsp : ∀ H : Hp, Only H → SqL K H a (ns.map V.int) → sp [.ref a] H (fun v _ => v = .bl true) fun _ _ _ => False)
    (hCX : ∀ H e s', CX [] H s₁ (fun _ _ _ => False) e s' → False) :
    codeAny (model P w) callerA (.call (.ref fa) ⟨[.ref a], []⟩) (fun r s' => r = .ok (.ret (.bool true)) ∧ OldK s₁.heap s'.heap ∧ s'.os = s₁.os ∧ AllBare s'.gens) s₁ := by
  have rv := vals_ints hi
  have lenV := hi.length
  -- from an abstract heap in which nothing but the script may be tracked
  have core : ∀ H : Hp, Only H → SqL K H a (ns.map V.int) → HOk P w H s₁.heap → (∀ b, H b ≠ none → b = a) → (H a ≠ none → K.lookup a = none) →
      codeAny (model P w) callerA (.call (.ref fa) ⟨[.ref a], []⟩) (fun r s' => r = .ok (.ret (.bool true)) ∧ OldK s₁.heap s'.heap ∧ s'.os = s₁.os ∧ AllBare s'.gens) s₁ := by
    intro H hO hS hok hA hK
    have base_of : ∀ {b : Addr} {o : Obj}, s₁.heap.get? b = some o → H b = none → (hidT s₁.heap H).get? b = some o := fun e n => hidT_get e n
    have noA : ∀ {b : Addr} {o : Obj} {es : Array DictEntry} {ep : Nat}, s₁.heap.get? b = some o → o.data = .dict es ep → H b = none := fun {b o es ep} e d => by
      cases q : H b with
      | none => rfl
      | some u =>
        have e' : b = a := hA b (by rw [q]; simp)
        subst e'
        rw [ha] at e; cases e
        have d' : Data.seq vs.toArray _ = Data.dict es ep := d
        cases d'
    have nsK : ∀ {b : Addr} {m : Str → Option Value}, s₁.heap.Ns b m → (hidT s₁.heap H).Ns b m := fun {b m} ⟨o, es, ep, e, d, r⟩ => ⟨o, es, ep, base_of e (noA e d), d, r⟩
    have hKb : K.In (hidT s₁.heap H) := fun b o e => base_of (KX b o e) (by
      cases q : H b with
      | none => rfl
      | some u =>
        have e' : b = a := hA b (by rw [q]; simp)
        subst e'
        rw [hK (by rw [q]; simp)] at e; cases e)
    have hM : Mod K mg (hidT s₁.heap H) := ⟨hKb, nsK hns, ⟨mb, nsK hb, hbb⟩, let ⟨mc, h1, h2⟩ := hlim; ⟨mc, nsK h1, h2⟩⟩
    have e0 : Env0 P w K mg (hidT s₁.heap H) callerA [] s₁ H := ⟨rfl, hM, fun b o e => of_hidT e, Nat.le_of_eq (hidT_size _ _), trivial, fun b hb => absurd (show b ∈ ([] : List Addr) from hb) (by simp), hok, .of_eq hg⟩
    refine codeAny_mono (F _ hKb (nsK hns) callerA [] s₁ H [.ref a] [.ref a] _ _ hr rfl e0 (.cons rfl .nil) (hsp H hO hS)) fun r s' h => ?_
    cases r with
    | error e => exact (hCX H e s' h).elim
    | ok fl =>
      cases fl with
      | next => exact False.elim h
      | brk => exact False.elim h
      | cont => exact False.elim h
      | ret u =>
        obtain ⟨v, H', os, bare, un, hok', r', q⟩ := h
        have q' : v = .bl true := q
        subst q'
        obtain rfl : u = Value.bool true := r'
        refine ⟨rfl, OldK.of_keep fun b o e => ?_, os, bare⟩
        cases q : H b with
        | none => exact un.keep b o e q (by intro z; exact absurd (show b ∈ ([] : List Addr) from z) (by simp)) (by simp)
        | some u =>
          rcases hO b with z | ⟨ob, xs, z⟩
          · rw [q] at z; cases z
          · have z2 := un.frzs b ob _ z
            obtain ⟨e1, _⟩ := hok b _ z
            obtain ⟨e2, _⟩ := hok' b _ z2
            rw [e] at e1; cases e1
            exact e2
  cases hk : K.lookup a with
  | some o =>
    -- the script is one of the module's own objects
    have e := KX a o hk
    rw [ha] at e
    cases e
    refine core (fun _ => none) (fun _ => .inl rfl) (.inr ⟨_, vs.toArray, _, hk, rfl, rfl, rfl, by rw [List.size_toArray, lenV]; exact hl, by simpa using rv⟩) (fun b u z => by have z' : (none : Option HO) = some u := z; cases z') (fun b z => absurd rfl z) fun z => absurd rfl z
  | none =>
    refine core (fun b => if b = a then some (.frz { cls := .type "list", data := .seq vs.toArray } (.lst (ns.map V.int))) else none) (fun b => ?_) (.inl (.inr ⟨{ cls := .type "list", data := .seq vs.toArray }, if_pos rfl⟩)) (fun b u z => ?_) (fun b z => ?_) fun _ => hk
    · by_cases hb : b = a
      · exact .inr ⟨_, _, if_pos hb⟩
      · exact .inl (if_neg hb)
    · by_cases hb : b = a
      · have z' := (if_pos hb).symm.trans z
        cases z'
        subst hb
        exact ⟨ha, by rw [List.length_map]; exact hl, vs, _, rv, ha⟩
      · have z' := (if_neg hb).symm.trans z
        cases z'
    · by_cases hb : b = a
      · exact hb
      · exact absurd (if_neg hb) z
/-- the end of a law whose def is FnG -/
theorem walkG {l : PySem.W.OpenLaw} {q : Program} {loose : List Str} {XP : (Str → Option Value) → Heap → Prop} {YP : World → Heap → Prop} {d : DefRec} {K : Params → PySem.W.Frag} {k : Nat} (hk : k ≤ 100) (hn : l.most = some 63) (hdf : d.params.defaults = [])
    (hY : ∀ (w : World) (h : Heap), YP w h → (K w.params).In h)
    (F : ∀ (w : World) (mg : Str → Option Value) (fa : Addr) (h : Heap), (K w.params).In h → h.Ns mainGlobals mg → mg d.name = some (.ref fa) →
      ∀ base : Heap, (K w.params).In base → base.Ns mainGlobals mg → FnG l.prog w (K w.params) mg base (L2.CX l.prog w) k fa (spLaw (K w.params))) :
    PySem.W.WalkO q loose XP YP l.row.toRowW d [] (fun f vs => PySem.call f vs) := by
  refine Att.attach_call hn hdf fun w s₀ s₁ mg mb fa o pm cd doc a vs ns G Y ho hd hcd hmg hobj hints hlen hg => ?_
  have KX := hY w _ Y
  exact law_callG KX G.T.g G.T.b G.T.builtins G.T.nolimit hg hobj hints (Nat.le_trans hlen (by decide)) (Room.mono ⟨rfl, by decide, by decide⟩ hk) (F w mg fa _ KX G.T.g hmg) (fun H hO hS => ⟨a, ns, rfl, hS, hlen, fun _ => rfl⟩) fun H e s' z => cx_no z
end Hf
namespace Hf
open PySem PySem.Spec PyProof.Rows L2
/-! ### comprehensions -/
def LcK (g : TG) (tt : TT) (te : TE) (vs : List Nat) (σ : L2.St) (Q : VK) : It → Hp → Prop := fun J H1 => ∀ D, H1 D = none → ∃ W : Nat → Nat → Hp → Prop, (∃ m, W 0 m (upd H1 D (.lst []))) ∧ ∀ i m H, W i m H →
  (J.stop i H ∧ Q (.ref D) H) ∨ (J.go i H ∧ ∃ Nx : Hp → Prop, (∀ H', Nx H' → ∃ m', m' < m ∧ W (i + 1) m' H') ∧ ∀ x H', J.yld i H x H' → g x (wipe σ vs) H' fun σ2 H2 => wipe σ2 vs = wipe σ vs ∧ tt σ2 H2 fun b H3 =>
    if b = true then te σ2 H3 fun y H4 => ∃ acc, H4 D = some (.lst acc) ∧ acc.length < sizeLine ∧ Nx (upd H4 D (.lst (acc ++ [y]))) else Nx H3)
section
variable {K : PySem.W.Frag} {σ : L2.St} {H : Hp} {Q : VK} {wi : TI} {g : TG} {tt : TT} {te : TE} {vs : List Nat} {i : Nat} {a : Addr} {xs : List V}
theorem rd_lc (q : wi σ H (LcK g tt te vs σ Q)) : tLc wi g tt te vs σ H Q := q
theorem rd_yes {QB : Bool → Hp → Prop} (q : QB true H) : tYes σ H QB := q
theorem wipe1 {x : Option V} : wipe ((wipe σ [i]).set i x) [i] = wipe σ [i] := by
  show ((σ.set i none).set i x).set i none = σ.set i none
  rw [List.set_set, List.set_set]
theorem Same.mut {H H1 : Hp} {p : Addr} {o : HO} (e : Same H H1) (h : H p = none) : Same H (upd H1 p o) := fun a u ha => by
  rw [upd_ne (ne_of_none ha h)]
  exact e a u ha
end
end Hf
namespace Hf
open PySem PySem.Spec PyProof.Rows L2
/-- v is the first size at which the difference is above 0, None if there is none -/
def IsFirst (S O D : Int) (v : V) : Prop := (∃ n, v = .int n ∧ 1 ≤ n ∧ 0 < plv S O D n ∧ ∀ m, 1 ≤ m → m < n → plv S O D m ≤ 0) ∨ (v = .non ∧ ∀ m, 1 ≤ m → plv S O D m ≤ 0)
theorem IsFirst.same {S O D : Int} {v v' : V} (h : IsFirst S O D v) (h' : IsFirst S O D v') : v = v' := by
  rcases h with ⟨n, rfl, a, b, c⟩ | ⟨rfl, c⟩ <;> rcases h' with ⟨n', rfl, a', b', c'⟩ | ⟨rfl, c'⟩
  · have : n = n' := by
      rcases Int.lt_trichotomy n n' with h | h | h
      · have := c' n a h
        omega
      · exact h
      · have := c n' a' h
        omega
    rw [this]
  · have := c' n a
    omega
  · have := c n' a'
    omega
  · rfl
end Hf
namespace Hf
open PySem PySem.Spec PyProof.Rows L2
/-- not above 10 ^ 50 -/
abbrev Md (x : Int) : Prop := -100000000000000000000000000000000000000000000000000 ≤ x ∧ x ≤ 100000000000000000000000000000000000000000000000000
/-- two lists of data, equal or not: the test of != -/
theorem use_neD {K : PySem.W.Frag} {H : Hp} {x y : V} {d e : PyData} {Q : VK} (h1 : Dp K H x d) (h2 : Dp K H y e) (s1 : SeqAt.shaped d = true) (s2 : SeqAt.shaped e = true) (k : Q (.bl (!PyData.eqv d e)) H) : rNeD K x y H Q := ⟨d, e, h1, h2, s1, s2, k⟩
theorem rd_bm {K : PySem.W.Frag} {T : String} {r : V → List V → Hp → VK → Prop} {to : TE} {t : TA} {σ : L2.St} {H : Hp} {Q : VK} (q : to σ H fun x H1 => tyV K T x H1 ∧ t σ H1 fun xs H2 => r x xs H2 Q) : tBM K T r to t σ H Q := q
theorem is_lst {K : PySem.W.Frag} {H : Hp} {l : Addr} {xs : List V} {P : Prop} (h : H l = some (.lst xs)) (k : P) : tyV K "list" (.ref l) H ∧ P := ⟨.inl ⟨rfl, _, SqL.of h⟩, k⟩
end Hf
namespace Hf
open PySem PySem.Spec PyProof.Rows L2
section
variable {K : PySem.W.Frag} {H : Hp} {l : Addr} {Q : VK}
/-- a number or None, as data -/
def dv : V → PyData
  | .int i => .int i
  | _ => .none
/-- x != y of a thing with itself, as a test -/
theorem ne_no {x y : V} {A B : Prop} (e : x = y) (k : B) : if (!decide (x = y)) = true then A else B := by
  rw [decide_eq_true e]
  exact iteF k
theorem ite_no {k : Bool} {A B : Prop} (e : k = false) (b : B) : if k = true then A else B := by
  rw [e]
  exact iteF b
theorem ite_yes {k : Bool} {A B : Prop} (e : k = true) (b : A) : if k = true then A else B := by
  rw [e]
  exact iteT b
end
end Hf
namespace Hf
open PySem PySem.Spec PyProof.Rows L2
/-! ### an own error whose __init__ begins with super().__init__(text) -/
/-- the def's words, for its context -/
abbrev nfS (name qual : Str) (params : Arguments) (body : List Stmt) (scope : Scope) (cc cda : Addr) : NdefX.NF := ⟨name, qual, params, body, scope, [("__class__", cc)], cda⟩
/-- what the written part says of super() in C's __init__ -/
structure SupC (P : Program) (K : PySem.W.Frag) (mg : Str → Option Value) (C cc cda : Addr) : Prop where
  code : ∃ ccl cdd cvs ccs file tf, K.lookup cda = some ⟨ccl, cdd, .fields cvs, ccs⟩ ∧ cvs[2]? = some (Value.str file tf) ∧ ((P.main.file : Str) == file) = true
  cell : ∃ cl cld csl, K.lookup cc = some ⟨cl, cld, .cell (some (.ref C)), csl⟩
  cls : ∃ cdC, PySem.W.clsIn K C = some cdC
  self : PySem.W.mroIn K C (.ref C) = some true
  sup : mg "super" = none
  top : (P.main.scope.names.lookup ("super" : Str)).isSome = false
  opq : PySem.W.nsIn K cStatics "thirdparty.any" = some none
  ini : PySem.W.ks_superIn K C C "__init__" = some (some (.builtin "ValueError.__init__"))
  isV : PySem.W.subIn K (.ref C) (.type "ValueError") = some true
section
variable {X : Cx} {pins : List (Addr × Obj)} {σ : L2.St} {H : Hp} {s : Shared}
/-- the bound ValueError.__init__ is called: nothing of it is told -/
theorem call_mw {A : Around} {E : Value → Shared → Prop} {u a C : Addr} {us : List Value} {Q : Value → Shared → Prop} (T : OexC X.K C) (I : Inv X pins σ H s) (e : H a = some (exo a C none)) (hu : s.heap.get? u = some (PySem.W.kxs_mw "ValueError.__init__" a)) (hl : us.length ≤ sizeLine) (h : ∀ s', Inv X pins σ H s' → Q .none s') :
    wpAny (model X.prog X.w) A (call (.ref u) us) Q E s := by
  obtain ⟨nm, q, N, bs, bm, sn, sub, ab, col, dd, k0, k1, k2, k3, k5, hC, hbm⟩ := T.cls
  obtain ⟨t1, ho⟩ := exo_at I.hok e
  obtain ⟨hp, g, d, t, os⟩ := s
  have hC' := I.kIn _ _ hC
  refine wpAny_call (codeAny_of_tree ?_)
  show wpAny _ A.in1 (callAny (.ref u) ⟨us, []⟩) _ _ _
  simp only [callAny]
  refine wpAny_bind (wpAny_load hu ?_)
  simp only [PySem.W.kxs_mw, show (Value.type "method-wrapper" == Value.type "method" || Value.type "method-wrapper" == Value.type "builtin_function_or_method" || Value.type "method-wrapper" == Value.type "method-wrapper") = true by decide, if_true]
  refine PySem.W.KFB.if_so (by decide) ?_
  refine wpAny_bind (PySem.W.check_bound_init F.excBase_ValueError.toExcCallFacts hC' ho rfl ?_)
  refine wpAny_bind (wpAny_pure (wpAny_pure ?_))
  refine ⟨PySem.plainId_quiet F.excBase_ValueError.init.plain _, codeAny_builtin F.excBase_ValueError.initEntry ?_⟩
  refine PySem.W.exc_init_tree (cls := .ref C) (t0 := t1) (dv := none) (c2 := .none) (c3 := .none) (b4 := .bool false) ho hl fun h' k hx _ => ?_
  have J := I.write (t' := t) (x := a) (e := a) (o := exo a C none) (by rw [e]; exact True.intro) (.inl rfl) k ⟨_, hx⟩ (exo_ok hx)
  have eu : upd H a (exo a C none) = H := by
    funext b
    by_cases hb : b = a
    · rw [hb, upd_same, e]
    · rw [upd_ne hb]
  rw [eu] at J
  exact h _ J
abbrev supSt (txt : Str) (j : Nat) (p0 p1 p2 p3 p4 p5 : Pos) : Stmt := .Expr (.Call (.Attribute (.Call (.Name "super" p0) [] [] p1) "__init__" p2) [.Constant (.str txt) j p3] [] p4) p5
theorem fnS_of {P : Program} {w : World} {K : PySem.W.Frag} {mg : Str → Option Value} {base : Heap} {CX : CXT} {k : Nat} {f C cc cda : Addr} {name qual txt : Str} {params : Arguments} {rest : List Stmt} {scope : Scope} {dV kV doc pm ct oc : Value} {an od : Option Addr} {osl : Array (Option Value)} {j : Nat} {p0 p1 p2 p3 p4 p5 : Pos}
    {N ps : List Str} {ar : Arg} {sp : Sp} (lk : K.lookup f = some ⟨oc, od, .func (PySem.W.ksFn name qual params (supSt txt j p0 p1 p2 p3 p4 p5 :: rest) scope dV kV doc pm an (.ref cda) ct cc), osl⟩) (hcd : PySem.W.codeIn K (.ref cda) qual = true)
    (S : NdefX.NScope N (("self" : Str) :: ps) ["__class__"] scope) (har : (params.posonlyargs ++ params.args).head? = some ar) (har2 : ar.arg = "self") (hks : scope.names.lookup ("super" : Str) = some .globalImplicit) (T : OexC K C) (U : SupC P K mg C cc cda)
    {pl : Env → Sem Bool} (he : ∀ env : Env, eval (.Call (.Attribute (.Call (.Name "super" p0) [] [] p1) "__init__" p2) [.Constant (.str txt) j p3] [] p4) env = (do
      let ov ← attributeBase (.Call (.Name "super" p0) [] [] p1) "__init__" env (eval (.Call (.Name "super" p0) [] [] p1) env)
      standAt p2.atName
      let (f, first) ← holding [ov] (getMethod ov "__init__" (pl env))
      callWith p4 f first (backTo p4 (starEach [.Constant (.str txt) j p3] env)) []))
    (len : ∀ vs H Q E, sp vs H Q E → vs.length = (("self" : Str) :: ps).length)
    (hbody : ∀ (A : Around) (outer : List Env) (s : Shared) (H : Hp) (vs : List V) (Q : VK) (E : XK), Room k (A.deeper (NdefX.envF (nfS name qual params (supSt txt j p0 p1 p2 p3 p4 p5 :: rest) scope cc cda) f s.heap.objs.size)) → sp vs H Q E →
      ∃ a ws, vs = .ref a :: ws ∧ H a = some (exo a C none) ∧ ∃ t, PSs (NdefX.ncx CX P w K mg base N (nfS name qual params (supSt txt j p0 p1 p2 p3 p4 p5 :: rest) scope cc cda) f A outer s H E) rest t ∧ t { nx := fun _ H' => Q .non H', rt := Q } (NdefX.startF N vs [none]) H) :
    FnOk P w K mg base CX (k + 1) f (PySem.W.ksFn name qual params (supSt txt j p0 p1 p2 p3 p4 p5 :: rest) scope dV kV doc pm an (.ref cda) ct cc) (("self" : Str) :: ps) sp := by
  refine ⟨len, fun A outer s H args us vs Q E hr e0 hb r hsp => ?_⟩
  have hl := len _ _ _ _ hsp
  have KX : K.In s.heap := e0.mod.kin.keeps fun b o e => (e0.bs b o e).1
  have lim : s.heap.NoLimit := e0.mod.nolimit.keeps fun b o e => (e0.bs b o e).1
  obtain ⟨cl, cld, csl, hcell⟩ := U.cell
  obtain ⟨ccl, cdd, cvs, ccs, file, tf, hcode, hvs, hfile⟩ := U.code
  obtain ⟨cdC, hcC⟩ := U.cls
  have CA : NdefX.CellsAt [("__class__", cc)] ["__class__"] [none] s.heap H := by
    have key : ∀ (y : Str) (c : Addr), ([("__class__", cc)] : List (Str × Addr)).lookup y = some c → y = "__class__" ∧ c = cc := fun y c e => by
      have m := PySem.mem_of_lookup e
      simp only [List.mem_singleton, Prod.mk.injEq] at m
      exact m
    refine ⟨rfl, fun y c e => ?_, fun x y c e1 e2 => ?_, fun i y e => ?_⟩
    · obtain ⟨_, rfl⟩ := key y c e
      exact ⟨(e0.bs _ _ (e0.mod.kin _ _ hcell)).2, _, _, KX _ _ hcell, rfl⟩
    · rw [(key x c e1).1, (key y c e2).1]
    · have m := List.mem_of_getElem? e
      simp only [List.mem_singleton] at m
      subst m
      refine ⟨cc, by rfl, fun v z => ?_⟩
      have z := List.mem_of_getElem? z
      simp at z
  refine PySem.ks_codeAny_call_defAt (fd := PySem.W.ksFn name qual params (supSt txt j p0 p1 p2 p3 p4 p5 :: rest) scope dV kV doc pm an (.ref cda) ct cc) hr.depth (KX _ _ lk) rfl lim (PySem.W.codeRec_of KX hcd) rfl hb S.nocell (fun ⟨n, _⟩ hy => S.par n (List.of_mem_zip hy).1) (fun h₀ hns kp => ?_) S.co S.gen S.kind
  obtain ⟨a, ws, rfl, ha, t, ht, hq⟩ := hbody A outer s H vs Q E (hr.deeper _) hsp
  have I : L2.Inv (NdefX.ncx CX P w K mg base N (nfS name qual params (supSt txt j p0 p1 p2 p3 p4 p5 :: rest) scope cc cda) f A outer s H E) [] (NdefX.startF N (.ref a :: ws) [none]) H { s with heap := h₀, toks := s.toks + ((("self" : Str) :: ps).zip us).length } := NdefX.inv_startN S hr.hd e0 hl r CA hns kp
  generalize { s with heap := h₀, toks := s.toks + ((("self" : Str) :: ps).zip us).length } = s1 at I
  have rf : ∃ ur, us = .ref a :: ur := by
    cases r with
    | cons r1 _ => exact ⟨_, by rw [show _ = Value.ref a from r1]⟩
  obtain ⟨ur, rfl⟩ := rf
  refine PySem.ks_wpAt_execs_cons ?_
  refine PySem.ks_wpAt_Expr_any ?_ (hi := I.quiet)
  refine PySem.ks_wpAt_MethodCall ?_ (he _)
  have hkc : scope.names.lookup ("__class__" : Str) = some .free := S.frk _ List.mem_cons_self
  have hka : scope.names.lookup ("self" : Str) = some .local := S.par _ List.mem_cons_self
  have hN0 : N[0]? = some ("self" : Str) := by
    have e := congrArg (fun l => l[0]?) S.pre
    simp only [List.length_cons, List.length_nil, List.getElem?_take_of_lt (show 0 < ps.length + 1 + (0 + 1) from by omega)] at e
    exact e
  obtain ⟨m, hm, hlook⟩ := I.loc
  have hself : m "self" = some (.ref a) := by
    obtain ⟨u, ru, z⟩ := hlook 0 "self" (.ref a) hN0 rfl (.inl hka)
    obtain rfl : u = Value.ref a := ru
    rcases z with ⟨_, z⟩ | ⟨z, _⟩
    · exact z
    · have hka' : (NdefX.ncx CX P w K mg base N (nfS name qual params (supSt txt j p0 p1 p2 p3 p4 p5 :: rest) scope cc cda) f A outer s H E).env.kindOf "self" = some .local := hka
      rcases z with z | z <;> rw [hka'] at z <;> cases z
  obtain ⟨oD, hD1, hD2⟩ : ∃ oD, s1.heap.get? C = some oD ∧ oD.data = .cls cdC := by
    unfold PySem.W.clsIn at hcC
    split at hcC
    · rename_i c d cd' sl ho
      cases hcC
      exact ⟨_, I.kIn _ _ ho, rfl⟩
    · cases hcC
  obtain ⟨t1, hx⟩ := exo_at I.hok ha
  have II : PySem.W.InstAt s1.heap a _ C none := ⟨hx, rfl, rfl, trivial⟩
  obtain ⟨mb, hb1, hb2⟩ := I.mod.blt
  refine PySem.ks_wpAt_super_base (fd := PySem.W.ksFn name qual params (supSt txt j p0 p1 p2 p3 p4 p5 :: rest) scope dV kV doc pm an (.ref cda) ct cc) hks hkc (by decide) rfl (I.kIn _ _ lk) rfl har rfl (I.kIn _ _ hcode) rfl hvs hfile U.top ?_
  refine PySem.W.ks_loadName_global S.kind hks (PySem.Calls.loadGlobal_builtin (I.mod.glob.keeps I.bk) U.sup (hb1.keeps I.bk) ((hb2 _ (by decide)).trans PyProof.Rows.Boot.«super») ⟨rfl, ?_⟩)
  refine wpAny_loadName_free S.kind hkc rfl ⟨_, I.kIn _ _ hcell, rfl⟩ ?_
  rw [har2]
  refine wpAny_loadName_local S.kind hka hm hself ?_
  refine PySem.ks_wpAny_isType_cls hD1 hD2 ⟨rfl, ?_⟩
  obtain ⟨hp1, g1, d1, tk1, os1⟩ := s1
  refine PySem.ks_wpAny_call_super hD1 hD2 hx rfl (fun c e => by cases e) (PySem.W.looks_mroIn I.kIn U.self) (fun h2 hso k2 => ?_)
  have I2 := I.kept (t' := tk1) k2
  obtain ⟨cd2, hc2⟩ := U.cls
  have hini := U.ini
  unfold PySem.W.ks_superIn at hini
  rw [hcC] at hini
  have II2 : PySem.W.InstAt h2 a _ C none := ⟨k2 _ _ hx, rfl, rfl, trivial⟩
  refine PySem.W.kxs_getMethod PySem.W.kxs_ValueError hso (PySem.W.looks_opaque I2.kIn U.opq) (l₀ := cdC.mro) (fun A Q E s k q => wpAny_bind ((PySem.W.looks_clsIn I2.kIn hcC) A _ E s k (wpAny_pure q))) rfl I2.kIn hini (II2.type.andThen (PySem.W.looks_subIn I2.kIn U.isV)) (PySem.W.ks_ne I2.kIn II2 hcC) (by decide) ?_
  have k3 : ∀ b o, h2.get? b = some o → (h2.push (PySem.W.kxs_mw "ValueError.__init__" a)).get? b = some o := fun b o e => Heap.get?_push_of_some _ e
  have I3 := I2.kept (t' := tk1 + 1) k3
  have hu3 : (h2.push (PySem.W.kxs_mw "ValueError.__init__" a)).get? h2.objs.size = some (PySem.W.kxs_mw "ValueError.__init__" a) := Heap.get?_push_at rfl rfl
  refine PySem.W.kxs_callWith (i := "ValueError.__init__") (x := a) rfl (PySem.Calls.evalArgs_plain (PySem.Calls.spliced_cons (PySem.Calls.Constant_str (k := j) (pos := p3) (PySem.Calls.spliced_nil ⟨hu3, ?_⟩))))
  refine call_mw T (I3.tok _) ha hu3 (by rw [sizeLine_eq]; show 1 ≤ 16777216; decide) fun s4 I4 => ?_
  refine PySem.wpAt_of_wpAny ?_
  refine wpAny_mono (ht.run [] _ _ H _ I4 hq) (fun fl s' hs => ?_) fun e s' hs => hs
  have fin : ∀ {σ' : L2.St} {H' : Hp} {v : V} {u : Value}, L2.Inv (NdefX.ncx CX P w K mg base N (nfS name qual params (supSt txt j p0 p1 p2 p3 p4 p5 :: rest) scope cc cda) f A outer s H E) [] σ' H' s' → L2.RelV v u → Q v H' → CE outer P w H s Q u s' :=
    fun {σ' H' v u} J rv q => ⟨v, H', J.os, J.bare, J.base, J.hok, rv, q⟩
  cases fl with
  | ret u =>
    obtain ⟨v, σ', H', J, rv, q⟩ := hs
    exact fin J rv q
  | next =>
    obtain ⟨σ', H', J, q⟩ := hs
    exact fin (v := V.non) (u := Value.none) J rfl q
  | brk =>
    obtain ⟨_, _, _, q⟩ := hs
    exact False.elim q
  | cont =>
    obtain ⟨_, _, _, q⟩ := hs
    exact False.elim q
end
end Hf
namespace Hf
open PySem PySem.Spec PyProof.Rows L2
/-! ### own errors: made, raised -/
/-- the promise of C's __init__: the fields are kept -/
def spErr (C : Addr) (names : List Str) : Sp := fun vs H Q _ => ∃ (a : Addr) (ws : List V), vs = .ref a :: ws ∧ ws.length = names.length ∧ H a = some (exo a C none) ∧ ∀ dx, H dx = none → dx ≠ a → Q .non (upd (upd H dx (exd dx (names.zip ws).reverse)) a (exo a C (some dx)))
/-- x names the class at C of errors with these fields -/
def Err (P : Program) (w : World) (K : PySem.W.Frag) (mg : Str → Option Value) (base : Heap) (x : Str) (C : Addr) (names : List Str) : Prop :=
  OexC K C ∧ mg x = some (.ref C) ∧ ∃ (fI : Addr) (fd : FuncData) (ps : List Str), PySem.W.findIn K (.ref C) "__init__" = some (some (.ref fI)) ∧ PySem.W.typeIn K (.ref fI) = some (.type "function") ∧ FnOk P w K mg base (L2.CX P w) 1 fI fd ps (spErr C names) ∧ L2.Binds K fd ps []
/-- what stands behind the arguments of C(e, ..) that is to be raised -/
def MkEK (C : Addr) (names : List Str) (Q : XK) (vs : List V) (H1 : Hp) : Prop := vs.length ≤ 1000 ∧ ∀ a, H1 a = none → spErr C names (.ref a :: (vs ++ [])) (upd H1 a (exo a C none))
  (fun v H2 => v = .non ∧ ∃ (d : Addr) (fs : List (Str × V)), H2 a = some (exo a C (some d)) ∧ H2 d = some (exd d fs) ∧ H1 d = none ∧ Q (.ref C) (some d) (upd (del H2 a) d (.xd fs))) (fun _ _ _ => False)
theorem rd_mkE {C : Addr} {names : List Str} {ta : TA} {σ : L2.St} {H : Hp} {Q : XK} (q : ta σ H (MkEK C names Q)) : tMkO C (spErr C names) [] ta σ H Q := q
theorem use_err {C : Addr} {names : List Str} {Q : XK} {vs : List V} {H1 : Hp} (hl : vs.length = names.length) (hn : names.length ≤ 1000) (q : ∀ d, H1 d = none → Q (.ref C) (some d) (upd H1 d (.xd (names.zip vs).reverse))) : MkEK C names Q vs H1 := by
  refine ⟨by omega, fun a hn => ?_⟩
  rw [List.append_nil]
  refine ⟨a, vs, rfl, hl, upd_same, fun dx hdx hne => ⟨rfl, dx, (names.zip vs).reverse, upd_same, ?_, ?_, ?_⟩⟩
  · rw [upd_ne hne, upd_same]
  · rw [upd_ne hne] at hdx
    exact hdx
  · rw [upd_ne hne] at hdx
    have e : upd (del (upd (upd (upd H1 a (exo a C none)) dx (exd dx (names.zip vs).reverse)) a (exo a C (some dx))) a) dx (.xd (names.zip vs).reverse) = upd H1 dx (.xd (names.zip vs).reverse) := by
      funext b
      by_cases h1 : b = dx
      · rw [h1, upd_same, upd_same]
      · rw [upd_ne h1, upd_ne h1]
        by_cases h2 : b = a
        · rw [h2, del_same, hn]
        · rw [del_ne h2, upd_ne h2, upd_ne h1, upd_ne h2]
    rw [e]
    exact q dx hdx
theorem pmk_err {X : Cx} {x : Str} {C : Addr} {names : List Str} {j : Nat} {e : Expr} {es : List Expr} {ta : TA} {p pos : Pos} (Er : Err X.prog X.w X.K X.mg X.base x C names) (hr : Room j X.A) (ha : PA X (e :: es) ta) (hk : 2 ≤ j := by decide) (hg : Gl X x := by rfl)
    (hdb : (x == ("__debug__" : Str)) = false := by decide) (he : starEach (e :: es) X.env = (false, eval e X.env) :: starEach es X.env := by rfl) (hpl : (backTo pos (starEach es X.env)).any (·.1) = false := by rfl) :
    PMk X (.Call (.Name x p) (e :: es) [] pos) (tMkO C (spErr C names) [] ta) := by
  obtain ⟨T, hm, fI, fd, ps, iC, tI, F1, hb⟩ := Er
  exact pmk_oex T iC tI F1 (hr.mono hk) hb (dvs := []) .nil passL hg hm ha hdb he hpl
/-- raise C(e, ..) in a def that lets out what E says -/
def tRaE (t : L2.St → Hp → XK → Prop) (E : XK) : TS := fun _ σ H => t σ H E
theorem ps_raE {X : Cx} {E : XK} {e : Expr} {t : L2.St → Hp → XK → Prop} {pos : Pos} (hc : X.calm = true) (tk : Takes X (fun cls d _ H => E cls d H)) (he : PMk X e t) : PS X (.Raise (some e) none pos) (tRaE t E) := ps_raise hc tk he
theorem rd_raE {t : L2.St → Hp → XK → Prop} {E : XK} {D : Ends} {σ : L2.St} {H : Hp} (q : t σ H E) : tRaE t E D σ H := q
/-! ### the __init__ of such a class -/
section
variable {P : Program} {w : World} {K : PySem.W.Frag} {mg : Str → Option Value} {base : Heap} {f C cc cda : Addr} {qual txt : Str} {params : Arguments} {scope : Scope} {dV kV doc pm ct oc : Value} {an od : Option Addr} {osl : Array (Option Value)} {j : Nat} {p0 p1 p2 p3 p4 p5 q0 q1 q2 q3 r0 r1 r2 r3 : Pos} {ar : Arg} {n1 n2 : Str}
theorem ok_err1 (lk : K.lookup f = some ⟨oc, od, .func (PySem.W.ksFn "__init__" qual params [supSt txt j p0 p1 p2 p3 p4 p5, .Assign [.Attribute (.Name "self" q0) n1 q1] (.Name n1 q2) q3] scope dV kV doc pm an (.ref cda) ct cc), osl⟩) (hcd : PySem.W.codeIn K (.ref cda) qual = true)
    (S : NdefX.NScope ["self", n1, "__class__"] ["self", n1] ["__class__"] scope) (har : (params.posonlyargs ++ params.args).head? = some ar) (har2 : ar.arg = "self") (hks : scope.names.lookup ("super" : Str) = some .globalImplicit) (T : OexC K C) (U : SupC P K mg C cc cda)
    {pl : Env → Sem Bool} (he : ∀ env : Env, eval (.Call (.Attribute (.Call (.Name "super" p0) [] [] p1) "__init__" p2) [.Constant (.str txt) j p3] [] p4) env = (do
      let ov ← attributeBase (.Call (.Name "super" p0) [] [] p1) "__init__" env (eval (.Call (.Name "super" p0) [] [] p1) env)
      standAt p2.atName
      let (f, first) ← holding [ov] (getMethod ov "__init__" (pl env))
      callWith p4 f first (backTo p4 (starEach [.Constant (.str txt) j p3] env)) []))
    (hno : PySem.W.findIn K (.ref C) n1 = some none) (h1 : (n1 == ("__debug__" : Str)) = false) (h2 : (n1 == ("__classdict__" : Str)) = false) (hsw : ∀ env, swapsWith (.Name n1 q2) (some (.Attribute (.Name "self" q0) n1 q1)) q3.line env = pure false) :
    FnOk P w K mg base (L2.CX P w) 1 f (PySem.W.ksFn "__init__" qual params [supSt txt j p0 p1 p2 p3 p4 p5, .Assign [.Attribute (.Name "self" q0) n1 q1] (.Name n1 q2) q3] scope dV kV doc pm an (.ref cda) ct cc) ["self", n1] (spErr C [n1]) := by
  refine fnS_of (k := 0) (N := ["self", n1, "__class__"]) (ps := [n1]) lk hcd S har har2 hks T U he (fun vs H Q E h => ?_) (fun A outer s H vs Q E hr h => ?_)
  · obtain ⟨a, ws, rfl, hl, _⟩ := h
    rw [List.length_cons, hl]
    rfl
  · obtain ⟨a, ws, rfl, hl, ha, k⟩ := h
    match ws, hl with
    | [v], _ =>
      refine ⟨a, _, rfl, ha, _, pss_one (ps_ost (pe_var (i := 0) (by rfl) (.inl (S.par _ List.mem_cons_self))) (pe_var (i := 1) (by rfl) (.inl (S.par _ (.tail _ List.mem_cons_self))) h1 h2) (hsw _)), ?_⟩
      refine ⟨v, rfl, .ref a, rfl, a, C, rfl, T, hno, .inl ⟨ha, fun dx n1 n2 => ?_⟩⟩
      exact k dx n1 n2
theorem ok_err2 (lk : K.lookup f = some ⟨oc, od, .func (PySem.W.ksFn "__init__" qual params [supSt txt j p0 p1 p2 p3 p4 p5, .Assign [.Attribute (.Name "self" q0) n1 q1] (.Name n1 q2) q3, .Assign [.Attribute (.Name "self" r0) n2 r1] (.Name n2 r2) r3] scope dV kV doc pm an (.ref cda) ct cc), osl⟩) (hcd : PySem.W.codeIn K (.ref cda) qual = true)
    (S : NdefX.NScope ["self", n1, n2, "__class__"] ["self", n1, n2] ["__class__"] scope) (har : (params.posonlyargs ++ params.args).head? = some ar) (har2 : ar.arg = "self") (hks : scope.names.lookup ("super" : Str) = some .globalImplicit) (T : OexC K C) (U : SupC P K mg C cc cda)
    {pl : Env → Sem Bool} (he : ∀ env : Env, eval (.Call (.Attribute (.Call (.Name "super" p0) [] [] p1) "__init__" p2) [.Constant (.str txt) j p3] [] p4) env = (do
      let ov ← attributeBase (.Call (.Name "super" p0) [] [] p1) "__init__" env (eval (.Call (.Name "super" p0) [] [] p1) env)
      standAt p2.atName
      let (f, first) ← holding [ov] (getMethod ov "__init__" (pl env))
      callWith p4 f first (backTo p4 (starEach [.Constant (.str txt) j p3] env)) []))
    (hno : PySem.W.findIn K (.ref C) n1 = some none) (hno2 : PySem.W.findIn K (.ref C) n2 = some none) (h1 : (n1 == ("__debug__" : Str)) = false) (h2 : (n1 == ("__classdict__" : Str)) = false) (h3 : (n2 == ("__debug__" : Str)) = false) (h4 : (n2 == ("__classdict__" : Str)) = false)
    (hsw : ∀ env, swapsWith (.Name n1 q2) (some (.Attribute (.Name "self" q0) n1 q1)) q3.line env = pure false) (hsw2 : ∀ env, swapsWith (.Name n2 r2) (some (.Attribute (.Name "self" r0) n2 r1)) r3.line env = pure false) :
    FnOk P w K mg base (L2.CX P w) 1 f (PySem.W.ksFn "__init__" qual params [supSt txt j p0 p1 p2 p3 p4 p5, .Assign [.Attribute (.Name "self" q0) n1 q1] (.Name n1 q2) q3, .Assign [.Attribute (.Name "self" r0) n2 r1] (.Name n2 r2) r3] scope dV kV doc pm an (.ref cda) ct cc) ["self", n1, n2] (spErr C [n1, n2]) := by
  refine fnS_of (k := 0) (N := ["self", n1, n2, "__class__"]) (ps := [n1, n2]) lk hcd S har har2 hks T U he (fun vs H Q E h => ?_) (fun A outer s H vs Q E hr h => ?_)
  · obtain ⟨a, ws, rfl, hl, _⟩ := h
    rw [List.length_cons, hl]
    rfl
  · obtain ⟨a, ws, rfl, hl, ha, k⟩ := h
    match ws, hl with
    | [v, v'], _ =>
      refine ⟨a, _, rfl, ha, _, pss_cons (ps_ost (pe_var (i := 0) (by rfl) (.inl (S.par _ List.mem_cons_self))) (pe_var (i := 1) (by rfl) (.inl (S.par _ (.tail _ List.mem_cons_self))) h1 h2) (hsw _)) (pss_one (ps_ost (pe_var (i := 0) (by rfl) (.inl (S.par _ List.mem_cons_self))) (pe_var (i := 2) (by rfl) (.inl (S.par _ (.tail _ (.tail _ List.mem_cons_self)))) h3 h4) (hsw2 _))), ?_⟩
      refine ⟨v, rfl, .ref a, rfl, a, C, rfl, T, hno, .inl ⟨ha, fun dx m1 m2 => ?_⟩⟩
      refine ⟨v', rfl, .ref a, rfl, a, C, rfl, T, hno2, .inr ⟨dx, [(n1, v)], upd_same, by rw [upd_ne m2, upd_same], (by show 1 ≤ 900; decide), ?_⟩⟩
      have e : upd (upd (upd H dx (exd dx [(n1, v)])) a (exo a C (some dx))) dx (exd dx ((n2, v') :: [(n1, v)])) = upd (upd H dx (exd dx (([n1, n2].zip [v, v']).reverse))) a (exo a C (some dx)) := by
        funext b
        by_cases e1 : b = dx
        · rw [e1, upd_same, upd_ne m2, upd_same]
          rfl
        · rw [upd_ne e1]
          by_cases e2 : b = a
          · rw [e2, upd_same, upd_same]
          · rw [upd_ne e2, upd_ne e2, upd_ne e1, upd_ne e1]
      show Q _ _
      rw [e]
      exact k dx m1 m2
end
end Hf
namespace PySem.W
open PySem PySem.Spec PySem.Calls PyProof.Rows
end PySem.W
namespace Hf
open PySem PySem.Spec PyProof.Rows L2
end Hf
namespace Hf
open PySem PySem.Spec PyProof.Rows L2 LamX
end Hf
namespace Hf
open PySem PySem.Spec PyProof.Rows L2
end Hf
namespace Hf
open PySem PySem.Spec PyProof.Rows L2
section
variable {P : Program} {w : World} {K : PySem.W.Frag} {mg : Str → Option Value} {base : Heap}
/-- a def that may raise: what it lets out is E's -/
theorem fnRX {x qual : Str} {st : Stmt} {f : Addr} {fd : FuncData} {N ps : List Str} {k : Nat} {sp : Sp} (F : Fun K x qual st f fd) (b : Binds K fd ps []) (S : FnScope N ps (defScope st)) (len : ∀ vs H Q E, sp vs H Q E → vs.length = ps.length)
    (hbody : ∀ (cdv : Value) (A : Around) (outer : List Env) (s : Shared) (H : Hp) (vs : List V) (Q : VK) (E : XK), Room k (A.deeper (envOfC qual (defScope st) s.heap.objs.size f cdv)) → Takes (cxOf (L2.CX P w) P w K mg base N qual (defScope st) f cdv A outer s H E) (fun cls d _ H => E cls d H) → sp vs H Q E →
      ∃ t, PSs (cxOf (L2.CX P w) P w K mg base N qual (defScope st) f cdv A outer s H E) (defBody st) t ∧ t { nx := fun _ H' => Q .non H', rt := Q } (L2.start N vs) H) : FnR P w K mg base (L2.CX P w) (k + 1) f sp := by
  have G := F.okX (P := P) (w := w) (mg := mg) (base := base) S len fun cdv A outer s H vs Q E hr h => hbody cdv A outer s H vs Q E hr (takes_of rfl rfl rfl rfl) h
  exact (G.raw b .nil).imp fun vs H Q E h => by rw [List.append_nil]; exact h
theorem fnOkDX {x qual : Str} {params : Arguments} {body : List Stmt} {scope : Scope} {dvs : List V} {kws : List (Str × V)} {f : Addr} {fd : FuncData} {N ps : List Str} {k : Nat} {sp : Sp} (F : FunD K x qual params body scope dvs kws f fd) (S : FnScope N ps scope) (len : ∀ vs H Q E, sp vs H Q E → vs.length = ps.length)
    (hbody : ∀ (cdv : Value) (A : Around) (outer : List Env) (s : Shared) (H : Hp) (vs : List V) (Q : VK) (E : XK), Room k (A.deeper (envOfC qual scope s.heap.objs.size f cdv)) → Takes (cxOf (L2.CX P w) P w K mg base N qual scope f cdv A outer s H E) (fun cls d _ H => E cls d H) → sp vs H Q E →
      ∃ t, PSs (cxOf (L2.CX P w) P w K mg base N qual scope f cdv A outer s H E) body t ∧ t { nx := fun _ H' => Q .non H', rt := Q } (L2.start N vs) H) : FnOk P w K mg base (L2.CX P w) (k + 1) f fd ps sp :=
  F.ok (CX := L2.CX P w) (P := P) (w := w) (mg := mg) (base := base) S len fun cdv A outer s H vs Q E hr h => hbody cdv A outer s H vs Q E hr (takes_of rfl rfl rfl rfl) h
end
theorem passE {X : Cx} {E : XK} (tk : Takes X (fun cls d _ H => E cls d H)) : Passes (L2.CX X.prog X.w) X E := passes_call tk fun _ _ _ _ h => h
/-- v is no whole number: is_whole says no -/
def NotW (K : PySem.W.Frag) (H : Hp) (v : V) : Prop := ∃ (t : Value) (b1 b2 : Bool), TyX K H v t ∧ PySem.W.kitOne K t (.type "int") = some b1 ∧ PySem.W.kitOne K t (.type "bool") = some b2 ∧ (b1 && !b2) = false
theorem TyX.same {K : PySem.W.Frag} {H H' : Hp} {v : V} {t : Value} (h : TyX K H v t) (e : Same H H') : TyX K H' v t := by
  cases h with
  | base b =>
    cases b with
    | non => exact .base .non
    | bl y => exact .base (.bl y)
    | int y => exact .base (.int y)
    | str y => exact .base (.str y)
    | flt y => exact .base (.flt y)
    | lst h => exact .base (.lst (e _ _ h))
    | frz h => exact .base (.frz (e _ _ h))
    | tup h => exact .base (.tup (e _ _ h))
    | dK h => exact .base (.dK (e _ _ h))
    | dT h => exact .base (.dT (e _ _ h))
    | ins h a b c d f => exact .base (.ins (e _ _ h) a b c d f)
  | byt y => exact .byt y
  | set h => exact .set (e _ _ h)
  | kList a b => exact .kList a b
  | kTuple a b => exact .kTuple a b
  | kDict a b => exact .kDict a b
  | fTuple h => exact .fTuple (e _ _ h)
  | fDict h => exact .fDict (e _ _ h)
theorem TyX.keep {K : PySem.W.Frag} {H H' : Hp} {b : Addr} {v : V} {t : Value} (h : TyX K H v t) (e : Keep b H H') (n : v ≠ .ref b) : TyX K H' v t := by
  have n' : ∀ {a : Addr}, v = .ref a → a ≠ b := fun {a} z q => n (by rw [z, q])
  cases h with
  | base c =>
    cases c with
    | non => exact .base .non
    | bl y => exact .base (.bl y)
    | int y => exact .base (.int y)
    | str y => exact .base (.str y)
    | flt y => exact .base (.flt y)
    | lst h => exact .base (.lst (e _ _ h (n' rfl)))
    | frz h => exact .base (.frz (e _ _ h (n' rfl)))
    | tup h => exact .base (.tup (e _ _ h (n' rfl)))
    | dK h => exact .base (.dK (e _ _ h (n' rfl)))
    | dT h => exact .base (.dT (e _ _ h (n' rfl)))
    | ins h a b c d f => exact .base (.ins (e _ _ h (n' rfl)) a b c d f)
  | byt y => exact .byt y
  | set h => exact .set (e _ _ h (n' rfl))
  | kList a b => exact .kList a b
  | kTuple a b => exact .kTuple a b
  | kDict a b => exact .kDict a b
  | fTuple h => exact .fTuple (e _ _ h (n' rfl))
  | fDict h => exact .fDict (e _ _ h (n' rfl))
theorem NotW.same {K : PySem.W.Frag} {H H' : Hp} {v : V} (h : NotW K H v) (e : Same H H') : NotW K H' v := let ⟨t, b1, b2, a, b, c, d⟩ := h; ⟨t, b1, b2, TyX.same a e, b, c, d⟩
theorem NotW.keep {K : PySem.W.Frag} {H H' : Hp} {b : Addr} {v : V} (h : NotW K H v) (e : Keep b H H') (n : v ≠ .ref b) : NotW K H' v := let ⟨t, b1, b2, a, x, c, d⟩ := h; ⟨t, b1, b2, TyX.keep a e n, x, c, d⟩
theorem wh_not {K : PySem.W.Frag} {H : Hp} {v : V} {Q : VK} {E : XK} (h : NotW K H v) (q : Q (.bl false) H) : spWhole K [v] H Q E := by
  obtain ⟨t, b1, b2, a, b, c, d⟩ := h
  exact ⟨v, t, b1, b2, rfl, a, b, c, by rw [d]; exact q⟩
theorem NotW.ne {K : PySem.W.Frag} {H : Hp} {i : Int} (h : NotW K H (.int i)) : False := by
  obtain ⟨t, b1, b2, a, b, c, d⟩ := h
  cases a with
  | base a =>
    cases a
    have e1 : PySem.W.kitOne K (.type "int") (.type "int") = some true := by kernel_rfl
    have e2 : PySem.W.kitOne K (.type "int") (.type "bool") = some false := by kernel_rfl
    rw [e1] at b
    rw [e2] at c
    cases b
    cases c
    cases d
theorem sm_log {i : Int} (h : Sm i) : i.natAbs.log2 < 1920 := Nat.lt_trans (PySem.Flt.log2_lt_of (by decide) h.nat) (by decide)
def FmtK (Q : VK) (x : V) (H1 : Hp) : Prop := (∃ y : Str, x = .str y ∧ y.length ≤ sizeLine ∧ Q (.str y) H1) ∨ ∃ i : Int, x = .int i ∧ i.natAbs.log2 < 1920 ∧ Q (.str (toString i)) H1
theorem rd_fmt {te : TE} {σ : L2.St} {H : Hp} {Q : VK} (q : te σ H (FmtK Q)) : tFmt te σ H Q := q
theorem fmt_int {i : Int} {H : Hp} {Q : VK} (h : Sm i) (q : Q (.str (Str.ofString (toString i))) H) : FmtK Q (.int i) H := .inr ⟨i, rfl, sm_log h, q⟩
def JsK (ts : List TE) (acc : Str) (σ : L2.St) (Q : Str → Hp → Prop) (x : V) (H1 : Hp) : Prop := ∃ y : Str, x = .str y ∧ (acc ++ y).length ≤ sizeLine ∧ tJs ts (acc ++ y) σ H1 Q
theorem rd_jsC {t : TE} {ts : List TE} {acc : Str} {σ : L2.St} {H : Hp} {Q : Str → Hp → Prop} (q : t σ H (JsK ts acc σ Q)) : tJs (t :: ts) acc σ H Q := q
theorem rd_jsN {acc : Str} {σ : L2.St} {H : Hp} {Q : Str → Hp → Prop} (q : Q acc H) : tJs [] acc σ H Q := q
/-! ### Sizes -/
def szF (lo : Int) (hi : V) : List (Str × V) := [("low", .int lo), ("high", hi)]
def SzAt (C : Addr) (H : Hp) (p : Addr) (lo : Int) (hi : V) : Prop := ∃ dx, H p = some (.ins C dx (szF lo hi))
theorem SzAt.same {C : Addr} {H H' : Hp} {p : Addr} {lo : Int} {hi : V} (h : SzAt C H p lo hi) (e : Same H H') : SzAt C H' p lo hi := let ⟨dx, h⟩ := h; ⟨dx, e _ _ h⟩
theorem SzAt.keep {C b : Addr} {H H' : Hp} {p : Addr} {lo : Int} {hi : V} (h : SzAt C H p lo hi) (e : Keep b H H') (n : p ≠ b) : SzAt C H' p lo hi := let ⟨dx, h⟩ := h; ⟨dx, e _ _ h n⟩
/-- high is not what it must be beside low -/
def BadHi (K : PySem.W.Frag) (H : Hp) (lo : Int) (hi : V) : Prop := (hi ≠ .non ∧ NotW K H hi) ∨ ∃ j : Int, hi = .int j ∧ (j < lo ∨ (lo ≤ j ∧ (j - lo) % 2 = 1))
/-- what the written part says of Sizes, at C -/
structure SzC (K : PySem.W.Frag) (mg : Str → Option Value) (C : Addr) : Prop where
  cl : Cls K C
  n1 : NoAttr K C "low"
  n2 : NoAttr K C "high"
  g : mg "Sizes" = some (.ref C)
  ne : NeC K C
  ha : PySem.W.findIn K (.ref C) "__class__" = some (some (.builtin "object.__class__"))
  hn : PySem.W.specialIn K (.builtin "object.__class__") "__get__" = some (some (.builtin "getset_descriptor.__get__"))
  tk : PySem.W.takesIn K (.builtin "object.__class__") = some true
  mo : PySem.W.mroIn K C (.type "object") = some true
  kT : PySem.W.kitOne K (.type "tuple") (.ref C) = some false
  nT : PySem.W.subIn K (.type "tuple") (.ref C) = some false
theorem SzC.ty {K : PySem.W.Frag} {mg : Str → Option Value} {C : Addr} (T : SzC K mg C) {H : Hp} {p dx : Addr} {fs : List (Str × V)} (h : H p = some (.ins C dx fs)) : TyX K H (.ref p) (.ref C) := .base (.ins h T.cl T.ha T.hn T.tk T.mo)
/-! ### the values that a law draws -/
def NewD (Q : VK) (H : Hp) : Prop := ∀ p, H p = none → Q (.ref p) (upd H p (.dK []))
theorem rd_dnew {σ : L2.St} {H : Hp} {Q : VK} (q : NewD Q H) : tDNewK σ H Q := q
theorem nw_non {K : PySem.W.Frag} {H : Hp} : NotW K H .non := ⟨_, false, false, .base .non, by kernel_rfl, by kernel_rfl, rfl⟩
theorem nw_bl {K : PySem.W.Frag} {H : Hp} {b : Bool} : NotW K H (.bl b) := ⟨_, true, true, .base (.bl b), by kernel_rfl, by kernel_rfl, rfl⟩
theorem nw_str {K : PySem.W.Frag} {H : Hp} {x : Str} : NotW K H (.str x) := ⟨_, false, false, .base (.str x), by kernel_rfl, by kernel_rfl, rfl⟩
theorem nw_lst {K : PySem.W.Frag} {H : Hp} {a : Addr} {xs : List V} (h : H a = some (.lst xs)) : NotW K H (.ref a) := ⟨_, false, false, .base (.lst h), by kernel_rfl, by kernel_rfl, rfl⟩
theorem nw_tup {K : PySem.W.Frag} {H : Hp} {a : Addr} {xs : List V} (h : H a = some (.tup xs)) : NotW K H (.ref a) := ⟨_, false, false, .base (.tup h), by kernel_rfl, by kernel_rfl, rfl⟩
theorem nw_dict {K : PySem.W.Frag} {H : Hp} {a : Addr} {kvs : List (Key × V)} (h : H a = some (.dK kvs)) : NotW K H (.ref a) := ⟨_, false, false, .base (.dK h), by kernel_rfl, by kernel_rfl, rfl⟩
/-- a whole number, not above 10 ^ 60, or no whole number at all; not the bag -/
def IsVal (K : PySem.W.Frag) (b : Addr) (H : Hp) (v : V) : Prop := v ≠ .ref b ∧ (NotW K H v ∨ ∃ i : Int, v = .int i ∧ Md i)
theorem IsVal.same {K : PySem.W.Frag} {b : Addr} {H H' : Hp} {v : V} (h : IsVal K b H v) (e : Same H H') : IsVal K b H' v := ⟨h.1, h.2.imp (fun x => x.same e) id⟩
theorem IsVal.keep {K : PySem.W.Frag} {b : Addr} {H H' : Hp} {v : V} (h : IsVal K b H v) (e : Keep b H H') : IsVal K b H' v := ⟨h.1, h.2.imp (fun x => x.keep e h.1) id⟩
def LoBad (K : PySem.W.Frag) (H : Hp) (lo : V) : Prop := NotW K H lo ∨ ∃ i : Int, lo = .int i ∧ i < 1
end Hf
namespace Hf
open PySem PySem.Spec PyProof.Rows L2 LamX
/-! ### heaps that are the same but for tables -/
theorem ExtN.same {H H' : Hp} (e : Same H H') : ExtN H H' := fun b o h _ => e b o h
theorem Bag.extN {b : Addr} {H H' : Hp} (h : Bag H b) (e : ExtN H H') : Bag H' b := by
  obtain ⟨c, cs, a, r, s, h1, h2, q⟩ := h
  exact ⟨c, cs, a, r, s, e _ _ h1 (fun ps z => by cases z), e _ _ h2 (fun ps z => by cases z), q⟩
theorem TyX.extN {K : PySem.W.Frag} {H H' : Hp} {v : V} {t : Value} (h : TyX K H v t) (e : ExtN H H') : TyX K H' v t := by
  cases h with
  | base b =>
    cases b with
    | non => exact .base .non
    | bl y => exact .base (.bl y)
    | int y => exact .base (.int y)
    | str y => exact .base (.str y)
    | flt y => exact .base (.flt y)
    | lst h => exact .base (.lst (e _ _ h (fun ps z => by cases z)))
    | frz h => exact .base (.frz (e _ _ h (fun ps z => by cases z)))
    | tup h => exact .base (.tup (e _ _ h (fun ps z => by cases z)))
    | dK h => exact .base (.dK (e _ _ h (fun ps z => by cases z)))
    | dT h => exact .base (.dT (e _ _ h (fun ps z => by cases z)))
    | ins h a b c d f => exact .base (.ins (e _ _ h (fun ps z => by cases z)) a b c d f)
  | byt y => exact .byt y
  | set h => exact .set (e _ _ h (fun ps z => by cases z))
  | kList a b => exact .kList a b
  | kTuple a b => exact .kTuple a b
  | kDict a b => exact .kDict a b
  | fTuple h => exact .fTuple (e _ _ h (fun ps z => by cases z))
  | fDict h => exact .fDict (e _ _ h (fun ps z => by cases z))
theorem NotW.extN {K : PySem.W.Frag} {H H' : Hp} {v : V} (h : NotW K H v) (e : ExtN H H') : NotW K H' v := let ⟨t, b1, b2, a, b, c, d⟩ := h; ⟨t, b1, b2, TyX.extN a e, b, c, d⟩
theorem IsVal.extN {K : PySem.W.Frag} {b : Addr} {H H' : Hp} {v : V} (h : IsVal K b H v) (e : ExtN H H') : IsVal K b H' v := ⟨h.1, h.2.imp (fun x => x.extN e) id⟩
theorem LoBad.extN {K : PySem.W.Frag} {H H' : Hp} {v : V} (h : LoBad K H v) (e : ExtN H H') : LoBad K H' v := h.imp (fun x => x.extN e) id
theorem BadHi.extN {K : PySem.W.Frag} {H H' : Hp} {i : Int} {v : V} (h : BadHi K H i v) (e : ExtN H H') : BadHi K H' i v := h.imp (fun x => ⟨x.1, x.2.extN e⟩) id
theorem Tabs.keep {T : List (Addr × Str)} {H H' : Hp} {b : Addr} (t : Tabs T H) (B : Bag H b) (e : Keep b H H') : Tabs T H' := by
  obtain ⟨c0, cs, a, r, s, hb, _⟩ := B
  intro p hp
  obtain ⟨ps, h1, h2, h3⟩ := t p hp
  refine ⟨ps, e _ _ h1 (ne_of h1 hb (by intro z; cases z)), h2, fun pos cv hc => ?_⟩
  obtain ⟨c, e1, e2⟩ := h3 pos cv hc
  refine ⟨c, e1, e _ _ e2 (ne_of e2 hb (by intro z; unfold CodeO at z; cases z))⟩
/-! ### Sizes(low, high), made or refused -/
/-! ### what a law hears: ('told', value) or a word and the fields -/
end Hf
namespace Hf
open PySem PySem.Spec PyProof.Rows L2
/-- what stands behind the keywords' values -/
def MkRK (C : Addr) (m : Nat) (sp : Sp) (E : XK) (Q : VK) (zs : List V) (H : Hp) : Prop := zs.length = m ∧ MakeK C sp E Q zs.reverse H
def tMakR (C : Addr) (m : Nat) (sp : Sp) (E : XK) (tk : TA) : TE := fun σ H Q => tk σ H (MkRK C m sp E Q)
theorem rd_makR {C : Addr} {m : Nat} {sp : Sp} {E : XK} {tk : TA} {σ : L2.St} {H : Hp} {Q : VK} (q : tk σ H (MkRK C m sp E Q)) : tMakR C m sp E tk σ H Q := q
end Hf
namespace Hf
open PySem PySem.Spec PyProof.Rows L2
/-! ### places that may be refused -/
/-- an error of the class at CB with these fields is let out, from a heap that only grew -/
def LetS (E : XK) (CB : Addr) (H : Hp) (fs : List (Str × V)) : Prop := ∀ (d : Addr) (H' : Hp), H' d = some (.xd fs) → Same H H' → E (.ref CB) (some d) H'
theorem LetS.same {E : XK} {CB : Addr} {H H' : Hp} {fs : List (Str × V)} (h : LetS E CB H fs) (e : Same H H') : LetS E CB H' fs := fun d H2 a b => h d H2 a (e.trans b)
/-- Place(slope, offset, odd) by its __init__: made, or the first wrong part is told -/
def spPlX (K : PySem.W.Frag) (C CB : Addr) : Sp := fun vs H Q E => ∃ (p dx : Addr) (v1 v2 v3 : V), vs = [.ref p, v1, v2, v3] ∧ H p = some (.ins C dx []) ∧
  ((NotW K H v1 ∧ LetS E CB H [("part", .str "slope")]) ∨ ∃ s : Int, v1 = .int s ∧ ((NotW K H v2 ∧ LetS E CB H [("part", .str "offset")]) ∨ ∃ o : Int, v2 = .int o ∧ ((NotW K H v3 ∧ LetS E CB H [("part", .str "odd")]) ∨
    ∃ d : Int, v3 = .int d ∧ ∀ H', H' p = some (.ins C dx (plF s o d)) → Keep p H H' → Q .non H')))
/-- place(size): the value, or BadSize -/
def spPlAtX (K : PySem.W.Frag) (C CS : Addr) : Sp := fun vs H Q E => ∃ (p : Addr) (s o d : Int) (v : V), vs = [.ref p, v] ∧ PlaceAt C H p s o d ∧ ((LoBad K H v ∧ LetS E CS H [("part", .str "size")]) ∨ ∃ n : Int, v = .int n ∧ 1 ≤ n ∧ Sm s ∧ Sm d ∧ Sm n ∧ Q (.int (plv s o d n)) H)
theorem use_plX {K : PySem.W.Frag} {C CB : Addr} {H : Hp} {s o d : Int} {Q : VK} {E : XK} (k : NewPl C H s o d Q) : MakeK C (spPlX K C CB) E Q [.int s, .int o, .int d] H := by
  intro x dx hx hdx hne
  refine ⟨x, dx, _, _, _, rfl, upd_same, .inr ⟨s, rfl, .inr ⟨o, rfl, .inr ⟨d, rfl, fun H' hp kp => ⟨rfl, k x H' hx ⟨dx, hp⟩ fun b u e => ?_⟩⟩⟩⟩⟩
  refine kp b u ?_ (ne_of_none e hx)
  rw [upd_ne (ne_of_none e hx), upd_ne (ne_of_none e hdx)]
  exact e
end Hf
namespace Hf
open PySem PySem.Spec PyProof.Rows L2
/-! ### calls by keyword alone -/
/-- what stands behind the keywords' values -/
def ClKK (m : Nat) (q : List V → List V) (sp : Sp) (E : XK) (Q : VK) (zs : List V) (H : Hp) : Prop := zs.length = m ∧ sp (q zs) H Q E
def tClK (m : Nat) (q : List V → List V) (sp : Sp) (E : XK) (tk : TA) : TE := fun σ H Q => tk σ H (ClKK m q sp E Q)
theorem rd_clK {m : Nat} {q : List V → List V} {sp : Sp} {E : XK} {tk : TA} {σ : L2.St} {H : Hp} {Q : VK} (k : tk σ H (ClKK m q sp E Q)) : tClK m q sp E tk σ H Q := k
/-! ### an instance called by keyword -/
def CkK (C a : Addr) (m : Nat) (sp : Sp) (E : XK) (Q : VK) (zs : List V) (H : Hp) : Prop := zs.length = m ∧ (∃ dx fs, H a = some (.ins C dx fs)) ∧ sp (.ref a :: zs) H Q E
def tCallIK (C : Addr) (m : Nat) (sp : Sp) (E : XK) (tf : TE) (tk : TA) : TE := fun σ H Q => tf σ H fun y H1 => ∃ a, y = V.ref a ∧ tk σ H1 (CkK C a m sp E Q)
theorem rd_callIK {C : Addr} {m : Nat} {sp : Sp} {E : XK} {tf : TE} {tk : TA} {σ : L2.St} {H : Hp} {Q : VK} (k : tf σ H fun y H1 => ∃ a, y = V.ref a ∧ tk σ H1 (CkK C a m sp E Q)) : tCallIK C m sp E tf tk σ H Q := k
/-! ### places compared with anything -/
/-! ### what the law of places draws -/
inductive F2 {α β : Type} (R : α → β → Prop) : List α → List β → Prop
  | nil : F2 R [] []
  | cons {a : α} {b : β} {as : List α} {bs : List β} : R a b → F2 R as bs → F2 R (a :: as) (b :: bs)
theorem F2.imp {α β : Type} {R S : α → β → Prop} (f : ∀ a b, R a b → S a b) {as : List α} {bs : List β} (h : F2 R as bs) : F2 S as bs := by
  induction h with
  | nil => exact .nil
  | cons x r ih => exact .cons (f _ _ x) ih
theorem F2.append {α β : Type} {R : α → β → Prop} {as cs : List α} {bs ds : List β} (h : F2 R as bs) (g : F2 R cs ds) : F2 R (as ++ cs) (bs ++ ds) := by
  induction h with
  | nil => exact g
  | cons x r ih => exact .cons x ih
theorem rd_gsub {to ti : TE} {t : TSet} {v : V} {σ : L2.St} {H : Hp} {Q : L2.St → Hp → Prop} (q : to σ H fun o H1 => ti σ H1 fun i H2 => t o i v H2 fun H3 => Q σ H3) : gSub to ti t v σ H Q := q
theorem Keep.upd {p : Addr} {H : Hp} {o : HO} : Keep p H (upd H p o) := fun a u h n => by rw [upd_ne n]; exact h
theorem tabs_keepL {T : List (Addr × Str)} {H H' : Hp} {p : Addr} {xs : List V} (t : LamX.Tabs T H) (hp : H p = some (.lst xs)) (e : Keep p H H') : LamX.Tabs T H' := by
  intro z hz
  obtain ⟨ps, h1, h2, h3⟩ := t z hz
  refine ⟨ps, e _ _ h1 (ne_of h1 hp (by intro z; cases z)), h2, fun pos cv hc => ?_⟩
  obtain ⟨c, e1, e2⟩ := h3 pos cv hc
  refine ⟨c, e1, e _ _ e2 (ne_of e2 hp (by intro z; unfold LamX.CodeO at z; cases z))⟩
theorem BagC.extN {b c : Addr} {H H' : Hp} (h : BagC H b c) (e : LamX.ExtN H H') : BagC H' b c := by
  obtain ⟨cs, a, r, s, h1, h2, q⟩ := h
  exact ⟨cs, a, r, s, e _ _ h1 (fun ps z => by cases z), e _ _ h2 (fun ps z => by cases z), q⟩
/-- one of a place's three is none, the name of the first such -/
def PlBad (K : PySem.W.Frag) (H : Hp) (x y z : V) (nm : Str) : Prop := (nm = "slope" ∧ NotW K H x) ∨ (nm = "offset" ∧ (∃ s : Int, x = .int s) ∧ NotW K H y) ∨ (nm = "odd" ∧ (∃ s : Int, x = .int s) ∧ (∃ o : Int, y = .int o) ∧ NotW K H z)
theorem PlBad.extN {K : PySem.W.Frag} {H H' : Hp} {x y z : V} {nm : Str} (h : PlBad K H x y z nm) (e : LamX.ExtN H H') : PlBad K H' x y z nm := h.imp (fun ⟨a, b⟩ => ⟨a, b.extN e⟩) (fun h => h.imp (fun ⟨a, b, c⟩ => ⟨a, b, c.extN e⟩) (fun ⟨a, b, c, d⟩ => ⟨a, b, c, d.extN e⟩))
theorem PlaceAt.extN {C : Addr} {H H' : Hp} {p : Addr} {s o d : Int} (h : PlaceAt C H p s o d) (e : LamX.ExtN H H') : PlaceAt C H' p s o d := let ⟨dx, h⟩ := h; ⟨dx, e _ _ h (fun ps z => by cases z)⟩
end Hf
namespace Hf
open PySem PySem.Spec PyProof.Rows L2
end Hf
namespace Hf
open PySem PySem.Spec PyProof.Rows L2
/-! ### the pen of a law: a list of three; k draws are left -/
def Pen (H : Hp) (b c : Addr) (k : Nat) : Prop := ∃ (cs : List Int) (n r : Int), H b = some (.lst [.ref c, .int n, .int r]) ∧ H c = some (.lst (cs.map V.int)) ∧ 0 ≤ n ∧ 0 ≤ r ∧ n + k ≤ 1000000
section
variable {H H' : Hp} {b c p : Addr} {k j : Nat}
theorem Pen.same (h : Pen H b c k) (e : Same H H') : Pen H' b c k := by
  obtain ⟨cs, n, r, h1, h2, q⟩ := h
  exact ⟨cs, n, r, e _ _ h1, e _ _ h2, q⟩
theorem Pen.less (h : Pen H b c k) (l : j ≤ k) : Pen H b c j := by
  obtain ⟨cs, n, r, h1, h2, a, d, q⟩ := h
  exact ⟨cs, n, r, h1, h2, a, d, by omega⟩
theorem Pen.ne (h : Pen H b c k) (n : H p = none) : p ≠ b ∧ p ≠ c := by
  obtain ⟨cs, m, r, h1, h2, q⟩ := h
  exact ⟨(ne_of_none h1 n).symm, (ne_of_none h2 n).symm⟩
theorem Pen.keep (h : Pen H b c k) (e : Keep p H H') (n1 : p ≠ b) (n2 : p ≠ c) : Pen H' b c k := by
  obtain ⟨cs, m, r, h1, h2, q⟩ := h
  exact ⟨cs, m, r, e _ _ h1 n1.symm, e _ _ h2 n2.symm, q⟩
theorem Pen.extN (h : Pen H b c k) (e : LamX.ExtN H H') : Pen H' b c k := by
  obtain ⟨cs, m, r, h1, h2, q⟩ := h
  exact ⟨cs, m, r, e _ _ h1 (fun ps z => by cases z), e _ _ h2 (fun ps z => by cases z), q⟩
theorem pen_ne {cs : List Int} {n r : Int} (h1 : H b = some (.lst [.ref c, .int n, .int r])) (h2 : H c = some (.lst (cs.map V.int))) : c ≠ b := by
  intro z
  rw [z, h1] at h2
  cases cs <;> cases h2
/-- the tables of a law stand while the pen writes -/
theorem tabs_pen {T : List (Addr × Str)} (t : LamX.Tabs T H) (P : Pen H b c k) (e : Keep b H H') : LamX.Tabs T H' := by
  obtain ⟨cs, m, r, h1, h2, q⟩ := P
  exact tabs_keepL t h1 e
end
def spPDraw : Sp := fun vs H Q _ => ∃ (b c : Addr) (k : Nat) (m : Int), vs = [.ref b, .int m] ∧ Pen H b c (k + 1) ∧ 0 < m ∧ m ≤ 10 ^ 40 ∧ ∀ (i : Int) (H' : Hp), 0 ≤ i → i < m → Pen H' b c k → Keep b H H' → Q (.int i) H'
def spPen (K : PySem.W.Frag) : Sp := fun vs H Q _ => ∃ (a : Addr) (ns : List Int), vs = [.ref a] ∧ SqL K H a (ns.map V.int) ∧ ns.length ≤ 63 ∧ ∀ (b c : Addr) (H' : Hp), Pen H' b c 1000000 → Same H H' → Q (.ref b) H'
/-- pick(pen, list) -/
def spPick : Sp := fun vs H Q _ => ∃ (b c l : Addr) (k : Nat) (xs : List V), vs = [.ref b, .ref l] ∧ Pen H b c (k + 1) ∧ H l = some (.lst xs) ∧ l ≠ b ∧ 0 < xs.length ∧ xs.length ≤ 1000000 ∧ ∀ (i : Nat) (x : V) (H' : Hp), xs[i]? = some x → Pen H' b c k → Keep b H H' → Q x H'
theorem use_pd {H : Hp} {b c : Addr} {k : Nat} {m : Int} {Q : VK} {E : XK} (P : Pen H b c (k + 1)) (h0 : 0 < m) (h1 : m ≤ 10 ^ 40) (q : ∀ (i : Int) (H' : Hp), 0 ≤ i → i < m → Pen H' b c k → Keep b H H' → Q (.int i) H') : spPDraw [.ref b, .int m] H Q E := ⟨b, c, k, m, rfl, P, h0, h1, q⟩
theorem eqv_nil {cs : List Int} : PyData.eqv (.list (cs.map PyData.int)) (.list []) = decide (cs = []) := by
  cases cs with
  | nil => simp [PyData.eqv, PyData.eqvAll]
  | cons x r => simp [PyData.eqv, PyData.eqvAll]
theorem cmul_l {i j : Int} (h0 : 0 ≤ i) (h : i < 18446744073709551616) : CMul i j := by
  have : (2 : Int) ^ 64 = 18446744073709551616 := by decide
  exact .inl ⟨by omega, by omega⟩
/-- an if without else: what stands behind is read once -/
theorem if_fin {b : Bool} {A : Prop} {N : L2.St → Hp → Prop} {σ : L2.St} {H : Hp} (S : L2.St → Hp → Prop) (s0 : S σ H) (h : ∀ σ' H', S σ' H' → N σ' H') (ha : b = true → (∀ σ' H', S σ' H' → N σ' H') → A) : if b = true then A else N σ H := by
  cases b with
  | false => exact iteF (h σ H s0)
  | true => exact iteT (ha rfl h)
/-- a list's item is set -/
theorem use_setL {H : Hp} {p : Addr} {xs : List V} {i : Int} {j : Nat} {v : V} {Q : Hp → Prop} (h : H p = some (.lst xs)) (hi : ixN xs.length i = some j) (q : Q (upd H p (.lst (xs.set j v)))) : rSetL (.ref p) (.int i) v H Q := ⟨p, xs, i, j, rfl, rfl, h, hi, q⟩
/-- xs[i] -/
theorem use_ixL {K : PySem.W.Frag} {H : Hp} {p : Addr} {xs : List V} {i : Int} {v : V} {Q : VK} (h : SqL K H p xs) (hi : atI xs i = some v) (q : Q v H) : rIxL K (.ref p) (.int i) H Q := ⟨p, xs, i, v, rfl, rfl, h, hi, q⟩
end Hf
namespace Hf
open PySem PySem.Spec PyProof.Rows L2
/-! ### zip of two texts -/
def ItzS (a b : Str) : It :=
  ⟨fun i _ => i < a.cps.size ∧ i < b.cps.size, fun i H v H' => ∃ (t : Addr) (c d : Nat), v = .ref t ∧ H t = none ∧ H' = upd H t (.tup [.str ⟨#[c]⟩, .str ⟨#[d]⟩]) ∧ a.cps[i]? = some c ∧ b.cps[i]? = some d,
    fun i _ => i ≤ a.cps.size ∧ i ≤ b.cps.size ∧ (i = a.cps.size ∨ i = b.cps.size)⟩
theorem five {n c : Nat} (h : c ∈ [n + 4, n + 2, n + 3, n, n + 1]) : c = n + 4 ∨ c = n + 2 ∨ c = n + 3 ∨ c = n ∨ c = n + 1 := by simpa using h
def iZipS (ta : TA) : TI := fun σ H R => ta σ H fun vs H1 => ∃ a b : Str, vs = [.str a, .str b] ∧ R (ItzS a b) H1
theorem rd_iZipS {ta : TA} {σ : L2.St} {H : Hp} {R : It → Hp → Prop} (q : ta σ H fun vs H1 => ∃ a b : Str, vs = [.str a, .str b] ∧ R (ItzS a b) H1) : iZipS ta σ H R := q
end Hf
namespace Hf
open PySem PySem.Spec PyProof.Rows L2
/-! ### texts of digits -/
/-- a row of digits as a text -/
def rowS (ds : List Nat) : Str := ⟨(ds.map (48 + ·)).toArray⟩
abbrev rowV (ds : List Nat) : V := .str (rowS ds)
theorem row_tl (ds : List Nat) : (rowS ds).cps.toList = ds.map (48 + ·) := rfl
theorem row_len (ds : List Nat) : (rowS ds).length = ds.length := by simp [rowS, Str.length]
theorem row_size (ds : List Nat) : (rowS ds).cps.size = ds.length := by simp [rowS]
theorem row_get {ds : List Nat} {i c : Nat} (h : (rowS ds).cps[i]? = some c) : ∃ d, ds[i]? = some d ∧ c = 48 + d := by
  have e : (rowS ds).cps[i]? = (ds.map (48 + ·))[i]? := by simp [rowS]
  rw [e, List.getElem?_map] at h
  cases hd : ds[i]? with
  | none => rw [hd] at h; cases h
  | some d => rw [hd] at h; exact ⟨d, rfl, (Option.some.inj h).symm⟩
theorem map48 : ∀ {a b : List Nat}, a.map (48 + ·) = b.map (48 + ·) → a = b
  | [], [], _ => rfl
  | [], _ :: _, h => by cases h
  | _ :: _, [], h => by cases h
  | x :: a, y :: b, h => by
    rw [List.map_cons, List.map_cons] at h
    have h1 := (List.cons.inj h).1
    have h2 := map48 (List.cons.inj h).2
    rw [h2, show x = y from by omega]
theorem row_inj {a b : List Nat} (h : rowS a = rowS b) : a = b := map48 (by rw [← row_tl, ← row_tl, h])
theorem row_zero : Str.ofString "0" = rowS [0] := by decide +kernel
theorem row_empty : Str.ofString "" = rowS [] := by decide +kernel
theorem row_str {i : Int} (h0 : 0 ≤ i) (h1 : i < 10) : Str.ofString (toString i) = rowS [i.toNat] := by
  have f : ∀ m : Nat, m < 10 → Str.ofString (toString (m : Int)) = rowS [m] := by decide +kernel
  have := f i.toNat (by omega)
  rwa [Int.toNat_of_nonneg h0] at this
theorem row_app (a b : List Nat) : rowS a ++ rowS b = rowS (a ++ b) := by
  refine TL.ext_tl ?_
  rw [TL.tl_append]
  show a.map (48 + ·) ++ b.map (48 + ·) = (a ++ b).map (48 + ·)
  rw [List.map_append]
theorem join_go : ∀ ys : List (List Nat), TL.joinL [] (ys.map fun y => y.map (48 + ·)) = ys.flatten.map (48 + ·)
  | [] => rfl
  | [y] => by simp [TL.joinL]
  | y :: z :: r => by
    have ih := join_go (z :: r)
    simp only [List.map_cons, TL.joinL, List.nil_append, List.flatten_cons, List.map_append] at ih ⊢
    rw [ih]
theorem row_join (ys : List (List Nat)) : Txt.join (Str.ofString "") (ys.map rowS) = rowS ys.flatten := by
  refine TL.ext_tl ?_
  rw [TL.join_eq, TL.tl_join]
  have e : TL.tl (Str.ofString "") = [] := by decide +kernel
  rw [e, List.map_map]
  exact join_go ys
theorem row_sum (ys : List (List Nat)) : ((ys.map rowS).map (·.length)).sum = ys.flatten.length := by
  induction ys with
  | nil => rfl
  | cons y r ih => simp only [List.map_cons, List.sum_cons, ih, row_len, List.flatten_cons, List.length_append]
/-- a text k times over -/
def repS (z : Str) (k : Nat) : Str := ⟨(List.replicate k z.cps).foldl (· ++ ·) #[]⟩
theorem fold_rep (z : Array Nat) : ∀ (k : Nat) (acc : Array Nat), ((List.replicate k z).foldl (· ++ ·) acc).toList = acc.toList ++ (List.replicate k z.toList).flatten
  | 0, acc => by simp
  | k + 1, acc => by
    rw [List.replicate_succ, List.foldl_cons, fold_rep z k, List.replicate_succ, List.flatten_cons, Array.toList_append, List.append_assoc]
theorem row_rep (d k : Nat) : repS (rowS [d]) k = rowS (List.replicate k d) := by
  refine TL.ext_tl ?_
  show ((List.replicate k (rowS [d]).cps).foldl (· ++ ·) #[]).toList = _
  rw [fold_rep]
  show [] ++ (List.replicate k [48 + d]).flatten = (List.replicate k d).map (48 + ·)
  rw [List.nil_append, List.map_replicate]
  induction k with
  | zero => rfl
  | succ k ih => rw [List.replicate_succ, List.flatten_cons, ih, List.replicate_succ]; rfl
theorem op_mulS {X : Cx} : OpR X (binaryOp .Mult) (fun x y H Q => ∃ (z : Str) (n : Int), x = .str z ∧ y = .int n ∧ 1 ≤ n ∧ n ≤ 1000 ∧ z.length ≤ 1000 ∧ 0 < z.length ∧ Q (.str (repS z n.toNat)) H) := by
  intro pins s σ H x y v u Q I rx ry h
  obtain ⟨z, n, rfl, rfl, h1, h2, h3, h4, q⟩ := h
  obtain ⟨t, rfl⟩ := rx
  obtain ⟨t', rfl⟩ := ry
  have e63 : (2 : Int) ^ 63 = 9223372036854775808 := by decide
  refine PySem.P.mul_str ?_ ?_ ?_ ?_
  · rw [decide_eq_false (by omega), decide_eq_false (by omega)]
    rfl
  · intro _ _
    have : (9223372036854775807 : Int) / n ≥ 9223372036854775 := by
      have := Int.ediv_le_ediv (a := 9223372036854775 * n) (b := 9223372036854775807) (c := n) (by omega) (by omega)
      rwa [Int.mul_ediv_cancel _ (by omega)] at this
    rw [e63, show (9223372036854775808 : Int) - 1 = 9223372036854775807 from by decide]
    omega
  · intro _ _
    have hb : z.length * n.toNat ≤ 1000 * 1000 := Nat.mul_le_mul h3 (by omega)
    exact decide_eq_false (by rw [sizeLine_eq]; omega)
  · rw [if_neg (by omega)]
    by_cases e : (n == 1 || z.length == 0) = true
    · rw [if_pos e]
      have e1 : n = 1 := by
        rcases (Bool.or_eq_true _ _).mp e with a | a
        · exact beq_iff_eq.mp a
        · exact absurd (beq_iff_eq.mp a) (by omega)
      refine ⟨.str z, H, I, ⟨t, rfl⟩, ?_⟩
      subst e1
      have : repS z (1 : Int).toNat = z := TL.ext_tl (by show ((List.replicate 1 z.cps).foldl (· ++ ·) #[]).toList = _; rw [fold_rep]; simp [TL.tl])
      rw [this] at q
      exact q
    · rw [if_neg e]
      have hl : (repS z n.toNat).length ≤ 1000 * 1000 := by
        show ((List.replicate n.toNat z.cps).foldl (· ++ ·) #[]).size ≤ _
        rw [← Array.length_toList, fold_rep]
        simp only [List.length_append, List.length_flatten, List.map_replicate, List.sum_replicate_nat, Array.length_toList, Array.toList_empty, List.length_nil, Nat.zero_add]
        exact Nat.mul_le_mul (by omega) h3
      exact ⟨by show _ ≤ sizeLine; rw [sizeLine_eq]; exact Nat.le_trans hl (by decide), ⟨.str _, H, I.tok _, ⟨_, rfl⟩, q⟩⟩
/-! ### [e for .. in ..], each e a value that only makes objects -/
theorem lc_mapW {J : It} {n : Nat} {G : Hp → Prop} {Y : Nat → Hp → V → Hp → Prop} (w : Walk J n G Y) {g : TG} {te : TE} {vs : List Nat} {σ : L2.St} {H : Hp} {Q : VK} (F : Nat → V) (hG : ∀ H', Same H H' → G H') (hn : n ≤ 1000)
    (hev : ∀ (j : Nat) (x : V) (H1 H2 : Hp) (R : VK), j < n → Same H H1 → Y j H1 x H2 → (∀ H3, Same H1 H3 → R (F j) H3) → g x (wipe σ vs) H2 fun σ2 H3 => wipe σ2 vs = wipe σ vs ∧ te σ2 H3 R)
    (k : ∀ (D : Addr) (H' : Hp), H D = none → H' D = some (.lst ((List.range n).map F)) → Same H H' → Q (.ref D) H') : LcK g tYes te vs σ Q J H := by
  intro D hD
  have gmono : ∀ {x : V} {σ : L2.St} {H : Hp} {A B : L2.St → Hp → Prop}, True := trivial
  refine lc_it w (g := g) (tt := tYes) (te := te) (vs := vs) (σ := σ) (Qd := fun H => Q (.ref D) H) (fun j H' => H' D = some (.lst ((List.range j).map F)) ∧ Same H H') ⟨upd_same, Same.new hD⟩ (fun j H' _ p => hG H' p.2) ?_ ?_
  · rintro j x H1 H2 hj ⟨e, s⟩ y
    refine hev j x H1 H2 (fun v H4 => ∃ acc, H4 D = some (.lst acc) ∧ acc.length < sizeLine ∧ (upd H4 D (.lst (acc ++ [v])) D = some (.lst ((List.range (j + 1)).map F)) ∧ Same H (upd H4 D (.lst (acc ++ [v]))))) hj s y fun H3 s3 => ⟨_, s3 _ _ e, ?_, ?_, Same.mut (s.trans s3) hD⟩
    · rw [List.length_map, List.length_range]
      exact small1000 (by omega)
    · rw [upd_same, List.range_succ, List.map_append]
      rfl
  · rintro H1 ⟨e, s⟩
    exact k D H1 hD e s
/-! ### readings -/
theorem rd_m1 {r : V → List V → Hp → VK → Prop} {to te : TE} {σ : L2.St} {H : Hp} {Q : VK} (q : to σ H fun x H1 => (∃ a, x = .str a) ∧ te σ H1 fun y H2 => r x [y] H2 Q) : tM1 r to te σ H Q := q
theorem rd_iStr {te : TE} {σ : L2.St} {H : Hp} {R : It → Hp → Prop} (q : te σ H fun v H1 => ∃ x, v = .str x ∧ R (Its x) H1) : iStr te σ H R := q
theorem rd_iEnum {K : PySem.W.Frag} {ta : TA} {σ : L2.St} {H : Hp} {R : It → Hp → Prop} (q : ta σ H fun vs H1 => ∃ a xs, vs = [.ref a] ∧ SqL K H1 a xs ∧ R (Ite K a) H1) : iEnum K ta σ H R := q
theorem rd_iZipA {K : PySem.W.Frag} {ta : TA} {σ : L2.St} {H : Hp} {R : It → Hp → Prop} (q : ta σ H fun vs H1 => ∃ a b xs ys, vs = [.ref a, .ref b] ∧ ((SqL K H1 a xs ∧ SqL K H1 b ys ∧ R (Itz K a b) H1) ∨ (SqT K H1 a xs ∧ SqT K H1 b ys ∧ R (RZ.ItzT K a b) H1))) : RZ.iZipA K ta σ H R := q
/-! ### C.m(e, ..), m a staticmethod of the class at C -/
def tStat (C : Addr) (sp : Sp) (E : XK) (ta : TE) (t : TA) : TE := fun σ H Q => ta σ H fun x H1 => x = .ref C ∧ t σ H1 fun vs H2 => sp vs H2 Q E
theorem rd_stat {C : Addr} {sp : Sp} {E : XK} {ta : TE} {t : TA} {σ : L2.St} {H : Hp} {Q : VK} (q : ta σ H fun x H1 => x = .ref C ∧ t σ H1 fun vs H2 => sp vs H2 Q E) : tStat C sp E ta t σ H Q := q
end Hf
namespace Hf
open PySem PySem.Spec PyProof.Rows L2
theorem pe_globI {X : Cx} {x : Str} {i : Int} {pos : Pos} (h : ∃ t, X.mg x = some (.int i t)) (hg : Gl X x := by rfl) (hd : (x == ("__debug__" : Str)) = false := by decide) : PE X (.Name x pos) (tC (.int i)) := by
  obtain ⟨t, h⟩ := h
  exact pe_glob hg h ⟨t, rfl⟩ hd
theorem pe_globS {X : Cx} {x z : Str} {pos : Pos} (h : ∃ t, X.mg x = some (.str z t)) (hg : Gl X x := by rfl) (hd : (x == ("__debug__" : Str)) = false := by decide) : PE X (.Name x pos) (tC (.str z)) := by
  obtain ⟨t, h⟩ := h
  exact pe_glob hg h ⟨t, rfl⟩ hd
theorem pg_tupB {X : Cx} {K : PySem.W.Frag} {es : List Expr} {k : Nat} {t : TGs} {n : Nat} {pos : Pos} (hc : X.calm = true) (h : PGs X es t) (hK : X.K = K := by rfl) (hn : (assignEach es X.env).length = n := by rfl) (hst : (assignEach es X.env).findIdx? (·.1) = none := by rfl) : PG X (.Tuple es k pos) (gTup K n t) := by
  subst hK
  exact pg_tup hc h hn hst
/-- 1 <= x <= 200 and its like -/
def ChK (r' : R2) (tc : TE) (σ : L2.St) (y : V) (Q : VK) : VK := fun z H3 => ∃ k, z = .bl k ∧ (if k = true then tc σ H3 fun w' H4 => r' y w' H4 Q else Q (.bl false) H3)
theorem rd_chain {r r' : R2} {ta tb tc : TE} {σ : L2.St} {H : Hp} {Q : VK} (q : ta σ H fun x H1 => tb σ H1 fun y H2 => r x y H2 (ChK r' tc σ y Q)) : tChain r r' ta tb tc σ H Q := q
theorem ch_yes {r' : R2} {tc : TE} {σ : L2.St} {y : V} {Q : VK} {H : Hp} {b : Bool} (h : b = true) (q : tc σ H fun w' H4 => r' y w' H4 Q) : ChK r' tc σ y Q (.bl b) H := by
  rw [h]
  exact ⟨true, rfl, iteT q⟩
/-! ### pictures -/
abbrev Pic := List (List Nat)
/-- h rows of w digits each -/
structure Good (w h : Nat) (R : Pic) : Prop where
  h : R.length = h
  w : ∀ r ∈ R, r.length = w
  d : ∀ r ∈ R, ∀ x ∈ r, x < 10
structure Fit (w h : Nat) : Prop where
  w1 : 1 ≤ w
  w2 : w ≤ 200
  h1 : 1 ≤ h
  h2 : h ≤ 200
def pcF (t : Addr) (w h : Nat) : List (Str × V) := [("rows", .ref t), ("width", .int w), ("height", .int h)]
def PicAt (C : Addr) (H : Hp) (p : Addr) (R : Pic) (w h : Nat) : Prop := ∃ dx t, H p = some (.ins C dx (pcF t w h)) ∧ H t = some (.tup (R.map rowV))
section
variable {C b : Addr} {H H' : Hp} {p : Addr} {R : Pic} {w h : Nat}
theorem PicAt.same (g : PicAt C H p R w h) (e : Same H H') : PicAt C H' p R w h := let ⟨dx, t, a, c⟩ := g; ⟨dx, t, e _ _ a, e _ _ c⟩
theorem PicAt.extN (g : PicAt C H p R w h) (e : LamX.ExtN H H') : PicAt C H' p R w h := let ⟨dx, t, a, c⟩ := g; ⟨dx, t, e _ _ a (fun ps z => by cases z), e _ _ c (fun ps z => by cases z)⟩
/-- a list is changed -/
theorem PicAt.keepL {xs : List V} (g : PicAt C H p R w h) (hb : H b = some (.lst xs)) (e : Keep b H H') : PicAt C H' p R w h := let ⟨dx, t, a, c⟩ := g; ⟨dx, t, e _ _ a (ne_of a hb (by intro z; cases z)), e _ _ c (ne_of c hb (by intro z; cases z))⟩
theorem PicAt.pen {c : Addr} {k : Nat} (g : PicAt C H p R w h) (P : Pen H b c k) (e : Keep b H H') : PicAt C H' p R w h := by
  obtain ⟨cs, n, r, h1, _⟩ := P
  exact g.keepL h1 e
end
theorem f_rw : ¬ ("rows" : Str) = "width" := by decide +kernel
theorem f_rh : ¬ ("rows" : Str) = "height" := by decide +kernel
theorem f_wh : ¬ ("width" : Str) = "height" := by decide +kernel
theorem pc_rows {t : Addr} {w h : Nat} : List.lookup ("rows" : Str) (pcF t w h) = some (.ref t) := lk_hit
theorem pc_make {t : Addr} {w h : Nat} : putF "height" (.int h) (putF "width" (.int w) (putF "rows" (.ref t) [])) = pcF t w h := by
  rw [pf_nil, pf_miss f_rw, pf_nil, pf_miss f_rh, pf_miss f_wh, pf_nil]
  rfl
/-- what the written part says of Picture, at C -/
structure PcC (K : PySem.W.Frag) (mg : Str → Option Value) (C : Addr) (dn : Str := "DIGITS") : Prop where
  cl : Cls K C
  n1 : NoAttr K C "rows"
  n2 : NoAttr K C "width"
  n3 : NoAttr K C "height"
  g : mg "Picture" = some (.ref C)
  ms : ∃ t, mg "MOST_SIZE" = some (.int 200 t)
  dg : ∃ t, mg dn = some (.str "0123456789" t)
  ha : PySem.W.findIn K (.ref C) "__class__" = some (some (.builtin "object.__class__"))
  hn : PySem.W.specialIn K (.builtin "object.__class__") "__get__" = some (some (.builtin "getset_descriptor.__get__"))
  tk : PySem.W.takesIn K (.builtin "object.__class__") = some true
  mo : PySem.W.mroIn K C (.type "object") = some true
theorem PcC.ty {K : PySem.W.Frag} {mg : Str → Option Value} {C : Addr} {dn : Str} (T : PcC K mg C dn) {H : Hp} {p dx : Addr} {fs : List (Str × V)} (h : H p = some (.ins C dx fs)) : TyX K H (.ref p) (.ref C) := .base (.ins h T.cl T.ha T.hn T.tk T.mo)
/-! ### promises -/
def spNSz : Sp := fun vs H Q _ => ∃ i j : Int, vs = [.int i, .int j] ∧ 1 ≤ i ∧ i ≤ 200 ∧ 1 ≤ j ∧ j ≤ 200 ∧ ∀ H', Same H H' → Q .non H'
def spLine : Sp := fun vs H Q _ => ∃ r : List Nat, vs = [rowV r] ∧ 1 ≤ r.length ∧ r.length ≤ 200 ∧ (∀ x ∈ r, x < 10) ∧ ∀ H', Same H H' → Q (.bl true) H'
/-- a plain picture -/
def plainR (w h d : Nat) : Pic := List.replicate h (List.replicate w d)
theorem plain_good {w h d : Nat} (hd : d < 10) : Good w h (plainR w h d) := by
  refine ⟨List.length_replicate, fun r hr => ?_, fun r hr x hx => ?_⟩
  · rw [(List.mem_replicate.mp hr).2]
    exact List.length_replicate
  · rw [(List.mem_replicate.mp hr).2] at hx
    rw [(List.mem_replicate.mp hx).2]
    exact hd
/-! ### rows as data -/
abbrev rowsD (R : Pic) : List PyData := R.map fun r => .str (rowS r)
theorem dp_rows {K : PySem.W.Frag} {H : Hp} : ∀ R : Pic, DpAll K H (R.map rowV) (rowsD R)
  | [] => .nil
  | r :: R => .cons (.str _) (dp_rows R)
theorem row_ok {r : List Nat} (h : ∀ x ∈ r, x < 10) : PyData.strOk (rowS r) = true := by
  unfold PyData.strOk
  rw [Array.all_eq_true']
  intro c hc
  have : c ∈ (rowS r).cps.toList := Array.mem_toList_iff.mpr hc
  rw [row_tl] at this
  obtain ⟨x, hx, rfl⟩ := List.mem_map.mp this
  have := h x hx
  exact decide_eq_true (by omega)
theorem lay_rows : ∀ {R : Pic}, (∀ r ∈ R, ∀ x ∈ r, x < 10) → PyData.canLayAll0 (rowsD R) = true
  | [], _ => by simp [PyData.canLayAll0]
  | r :: R, h => by
    have h1 := row_ok (h r List.mem_cons_self)
    have h2 := lay_rows fun r' hr => h r' (List.mem_cons_of_mem _ hr)
    simp only [rowsD] at h2
    simp [PyData.canLayAll0, PyData.canLay0, h1, h2]
theorem dep_rows : ∀ R : Pic, PyData.depthAll (rowsD R) = 0
  | [] => by simp [PyData.depthAll]
  | r :: R => by
    have := dep_rows R
    simp only [rowsD] at this
    simp [PyData.depthAll, PyData.depth, this]
theorem shp_rowsT {R : Pic} (h : ∀ r ∈ R, ∀ x ∈ r, x < 10) : SeqAt.shaped (.tuple (rowsD R)) = true := by
  have h1 := lay_rows h
  have h2 := dep_rows R
  simp only [rowsD] at h1 h2
  simp [SeqAt.shaped, PyData.canLay0, PyData.depth, h1, h2]
theorem eqv_rows : ∀ R S : Pic, PyData.eqvAll (rowsD R) (rowsD S) = decide (R = S)
  | [], [] => by simp [PyData.eqvAll]
  | [], _ :: _ => by simp [PyData.eqvAll]
  | _ :: _, [] => by simp [PyData.eqvAll]
  | r :: R, s :: S => by
    have ih := eqv_rows R S
    simp only [rowsD] at ih
    simp only [rowsD, List.map_cons, PyData.eqvAll, PyData.eqv, ih]
    by_cases e : r = s
    · subst e
      by_cases e2 : R = S <;> simp [e2]
    · have : (rowS r == rowS s) = false := by
        rw [beq_eq_false_iff_ne]
        exact fun z => e (row_inj z)
      rw [this, Bool.false_and]
      exact (decide_eq_false fun z => e (List.cons.inj z).1).symm
section
variable {K : PySem.W.Frag} {H : Hp} {p q : Addr} {R S : Pic} {Q : VK}
theorem use_neRT (h1 : H p = some (.tup (R.map rowV))) (h2 : H q = some (.tup (S.map rowV))) (g1 : ∀ r ∈ R, ∀ x ∈ r, x < 10) (g2 : ∀ r ∈ S, ∀ x ∈ r, x < 10) (k : Q (.bl (!decide (R = S))) H) : rNeD K (.ref p) (.ref q) H Q := by
  refine use_neD (.tup (SqT.of h1) (dp_rows R)) (.tup (SqT.of h2) (dp_rows S)) (shp_rowsT g1) (shp_rowsT g2) ?_
  rw [show PyData.eqv (.tuple (rowsD R)) (.tuple (rowsD S)) = PyData.eqvAll (rowsD R) (rowsD S) from by simp only [PyData.eqv], eqv_rows]
  exact k
end
/-! ### one picture within another -/
theorem map_get {α β : Type} {f : α → β} {l : List α} {i : Nat} {y : β} (h : (l.map f)[i]? = some y) : ∃ x, l[i]? = some x ∧ y = f x := by
  rw [List.getElem?_map] at h
  cases e : l[i]? with
  | none => rw [e] at h; cases h
  | some x => rw [e] at h; exact ⟨x, rfl, (Option.some.inj h).symm⟩
theorem row_szl {r : List Nat} (h : r.length ≤ 200) : (rowS r).length ≤ sizeLine := by
  rw [row_len]
  exact Nat.le_of_lt (small1000 (by omega))
end Hf
namespace Hf
open PySem PySem.Spec PyProof.Rows L2
/-! ### errors without fields: made, raised -/
section
variable {X : Cx}
def tMkN (C : Addr) : L2.St → Hp → XK → Prop := fun _ H Q => Q (.ref C) none H
theorem rd_mkN {C : Addr} {σ : L2.St} {H : Hp} {Q : XK} (q : Q (.ref C) none H) : tMkN C σ H Q := q
end
end Hf
namespace Hf
open PySem PySem.Spec PyProof.Rows L2
theorem rd_sl {r : V → Option Int → Option Int → Hp → VK → Prop} {te : TE} {tl th : TO} {σ : L2.St} {H : Hp} {Q : VK} (q : te σ H fun x H1 => tl σ H1 fun l H2 => th σ H2 fun u H3 => r x l u H3 Q) : L2.tSl r te tl th σ H Q := q
theorem rd_noPart {σ : L2.St} {H : Hp} {Q : Option Int → Hp → Prop} (q : Q none H) : tNoPart σ H Q := q
theorem rd_part {te : TE} {σ : L2.St} {H : Hp} {Q : Option Int → Hp → Prop} (q : te σ H fun v H1 => ∃ i, v = .int i ∧ Q (some i) H1) : tPart te σ H Q := q
/-- [e for i in range(n)], e draws: S by the turn, Pr of each item -/
theorem lc_drawn {te : TE} {n i : Nat} {lo : Int} {σ : L2.St} {H : Hp} {Q : VK} {b : Addr} (S : Nat → Hp → Prop) (Pr : V → Prop) (hn : n ≤ 1000) (hb : ∃ o, H b = some o) (s0 : S 0 H) (keep : ∀ j H', S j H' → Keep b H H')
    (put : ∀ (j : Nat) (D : Addr) (H' : Hp) (ys : List V), H D = none → S j H' → S j (upd H' D (.lst ys)))
    (hev : ∀ (j : Nat) (H1 : Hp) (R : VK), j < n → S j H1 → (∀ (y : V) (H2 : Hp), Pr y → S (j + 1) H2 → Keep b H1 H2 → R y H2) → te ((wipe σ [i]).set i (some (.int (lo + j)))) H1 R)
    (k : ∀ (D : Addr) (ys : List V) (H' : Hp), H D = none → H' D = some (.lst ys) → ys.length = n → (∀ y ∈ ys, Pr y) → S n H' → Q (.ref D) H') : LcK (gName i) tYes te [i] σ Q (Itr lo n) H := by
  intro D hD
  have nb : D ≠ b := by
    obtain ⟨o, hb⟩ := hb
    exact (ne_of_none hb hD).symm
  refine lc_range (lo := lo) (n := n) (g := gName i) (tt := tYes) (te := te) (vs := [i]) (σ := σ) (Qd := fun H => Q (.ref D) H) (fun j H' => ∃ ys : List V, H' D = some (.lst ys) ∧ ys.length = j ∧ (∀ y ∈ ys, Pr y) ∧ S j H') ⟨[], upd_same, rfl, fun y h => (nomatch h), put 0 D H [] hD s0⟩ ?_ ?_
  · rintro j H1 hj ⟨ys, e, l, p, s⟩
    refine ⟨wipe1, ?_⟩
    refine rd_yes ?_
    refine iteT ?_
    refine hev j H1 _ hj s fun y H2 py s2 k2 => ⟨_, k2 _ _ e nb, ?_, ys ++ [y], upd_same, ?_, fun z hz => ?_, put (j + 1) D H2 _ hD s2⟩
    · rw [l]
      exact small1000 (by omega)
    · rw [List.length_append, l]
      rfl
    · rcases List.mem_append.mp hz with h | h
      · exact p z h
      · rw [List.mem_singleton.mp h]
        exact py
  · rintro H1 ⟨ys, e, l, p, s⟩
    exact k D ys H1 hD e l p s
theorem Good.snoc {w h : Nat} {R : Pic} {r : List Nat} (G : Good w h R) (hl : r.length = w) (hd : ∀ x ∈ r, x < 10) : Good w (h + 1) (R ++ [r]) := by
  refine ⟨by rw [List.length_append, G.h]; rfl, fun z hz => ?_, fun z hz => ?_⟩
  · rcases List.mem_append.mp hz with q | q
    · exact G.w z q
    · rw [List.mem_singleton.mp q]
      exact hl
  · rcases List.mem_append.mp hz with q | q
    · exact G.d z q
    · rw [List.mem_singleton.mp q]
      exact hd
theorem good_nil {w : Nat} : Good w 0 [] := ⟨rfl, fun r h => (nomatch h), fun r h => (nomatch h)⟩
theorem flat_one : ∀ ds : List Nat, (ds.map fun d => [d]).flatten = ds
  | [] => rfl
  | d :: ds => by
    rw [List.map_cons, List.flatten_cons, flat_one ds]
    rfl
end Hf
namespace Hf
open PySem PySem.Spec PyProof.Rows L2
theorem rep_rows (w h d : Nat) : (List.replicate h [V.str (rowS (List.replicate w d))]).flatten = (plainR w h d).map rowV := by
  show _ = (List.replicate h (List.replicate w d)).map rowV
  rw [List.map_replicate]
  induction h with
  | zero => rfl
  | succ n ih => rw [List.replicate_succ, List.flatten_cons, ih, List.replicate_succ]; rfl
/-- r[i] of a row -/
theorem use_ixR {H : Hp} {r : List Nat} {i d : Nat} {Q : VK} (h : r[i]? = some d) (hl : r.length ≤ 200) (q : Q (rowV [d]) H) : rIxS (rowV r) (.int (i : Int)) H Q := by
  refine ⟨_, _, 48 + d, rfl, rfl, row_szl hl, ?_, q⟩
  rw [row_tl]
  exact atI_nat (xs := r.map (48 + ·)) (j := i) (v := 48 + d) (by rw [List.getElem?_map, h]; rfl)
/-- R[i] of a list of rows -/
theorem use_ixW {K : PySem.W.Frag} {H : Hp} {l : Addr} {R : Pic} {i : Nat} {r : List Nat} {Q : VK} (h : H l = some (.lst (R.map rowV))) (hi : R[i]? = some r) (q : Q (rowV r) H) : rIxL K (.ref l) (.int (i : Int)) H Q :=
  use_ixL (SqL.of h) (atI_nat (xs := R.map rowV) (j := i) (v := rowV r) (by rw [List.getElem?_map, hi]; rfl)) q
theorem good_row {w h : Nat} {R : Pic} (G : Good w h R) {j : Nat} (hj : j < h) : ∃ r, R[j]? = some r ∧ r.length = w := by
  have : j < R.length := by rw [G.h]; exact hj
  exact ⟨R[j], List.getElem?_eq_getElem this, G.w _ (List.getElem_mem this)⟩
theorem row_at {w : Nat} {r : List Nat} (h : r.length = w) {i : Nat} (hi : i < w) : ∃ x, r[i]? = some x := ⟨r[i]'(by omega), List.getElem?_eq_getElem (by omega)⟩
/-! ### a row with one digit changed -/
theorem cut_to (r : List Nat) {i : Nat} (h : i ≤ r.length) : cutS (rowS r) none (some (i : Int)) = rowS (r.take i) := by
  refine TL.ext_tl ?_
  show (((rowS r).cps.toList.drop (HT.sIx (rowS r).length 0 none)).take (HT.sIx (rowS r).length (rowS r).length (some (i : Int)) - HT.sIx (rowS r).length 0 none)) = (r.take i).map (48 + ·)
  rw [HT.sIx_none, HT.sIx_nat, row_len, row_tl, List.drop_zero, Nat.sub_zero, Nat.min_eq_left h, List.map_take]
theorem cut_from (r : List Nat) {i : Nat} (h : i ≤ r.length) : cutS (rowS r) (some (i : Int)) none = rowS (r.drop i) := by
  refine TL.ext_tl ?_
  show (((rowS r).cps.toList.drop (HT.sIx (rowS r).length 0 (some (i : Int)))).take (HT.sIx (rowS r).length (rowS r).length none - HT.sIx (rowS r).length 0 (some (i : Int)))) = (r.drop i).map (48 + ·)
  rw [HT.sIx_none, HT.sIx_nat, row_len, row_tl, Nat.min_eq_left h, List.map_drop]
  rw [List.take_of_length_le]
  rw [List.length_drop, List.length_map]
  omega
theorem Good.set {w h : Nat} {R : Pic} {r : List Nat} {j : Nat} (G : Good w h R) (hl : r.length = w) (hd : ∀ x ∈ r, x < 10) : Good w h (R.set j r) := by
  refine ⟨by rw [List.length_set, G.h], fun z hz => ?_, fun z hz => ?_⟩
  · rcases List.mem_or_eq_of_mem_set hz with q | q
    · exact G.w z q
    · rw [q]; exact hl
  · rcases List.mem_or_eq_of_mem_set hz with q | q
    · exact G.d z q
    · rw [q]; exact hd
theorem use_ixT {K : PySem.W.Frag} {H : Hp} {p : Addr} {xs : List V} {i : Int} {v : V} {Q : VK} (h : SqT K H p xs) (hi : atI xs i = some v) (q : Q v H) : rIxT K (.ref p) (.int i) H Q := ⟨p, xs, i, v, rfl, rfl, h, hi, q⟩
end Hf
namespace Hf
open PySem PySem.Spec PyProof.Rows L2
/-! ### pictures joined pixel by pixel -/
def sharD (x y : Nat) : Nat := if x = y then x else 0
def zipR (f : Nat → Nat → Nat) (a b : List Nat) : List Nat := List.zipWith f a b
def zipP (f : Nat → Nat → Nat) (R S : Pic) : Pic := List.zipWith (zipR f) R S
/-- the pixel at row j, column i -/
def px (R : Pic) (j i : Nat) : Nat := (R.getD j []).getD i 0
theorem good_zip {w h : Nat} {R S : Pic} {f : Nat → Nat → Nat} (hf : ∀ x y, x < 10 → y < 10 → f x y < 10) (G1 : Good w h R) (G2 : Good w h S) : Good w h (zipP f R S) := by
  have key : ∀ t ∈ zipP f R S, ∃ r s, r ∈ R ∧ s ∈ S ∧ t = zipR f r s := fun t ht => by
    obtain ⟨j, hj⟩ := List.mem_iff_getElem?.mp ht
    rw [zipP, List.getElem?_zipWith] at hj
    cases hr : R[j]? with
    | none => rw [hr] at hj; cases hj
    | some r =>
      cases hs : S[j]? with
      | none => rw [hr, hs] at hj; cases hj
      | some s =>
        rw [hr, hs] at hj
        exact ⟨r, s, List.mem_of_getElem? hr, List.mem_of_getElem? hs, (Option.some.inj hj).symm⟩
  refine ⟨by rw [zipP, List.length_zipWith, G1.h, G2.h, Nat.min_self], fun t ht => ?_, fun t ht z hz => ?_⟩
  · obtain ⟨r, s, hr, hs, rfl⟩ := key t ht
    rw [zipR, List.length_zipWith, G1.w r hr, G2.w s hs, Nat.min_self]
  · obtain ⟨r, s, hr, hs, rfl⟩ := key t ht
    obtain ⟨i, hi⟩ := List.mem_iff_getElem?.mp hz
    rw [zipR, List.getElem?_zipWith] at hi
    cases hx : r[i]? with
    | none => rw [hx] at hi; cases hi
    | some x =>
      cases hy : s[i]? with
      | none => rw [hx, hy] at hi; cases hi
      | some y =>
        rw [hx, hy] at hi
        rw [← Option.some.inj hi]
        exact hf x y (G1.d r hr x (List.mem_of_getElem? hx)) (G2.d s hs y (List.mem_of_getElem? hy))
theorem px_at {R : Pic} {j i x : Nat} {r : List Nat} (h1 : R[j]? = some r) (h2 : r[i]? = some x) : px R j i = x := by
  have e1 : R.getD j [] = r := by rw [List.getD_eq_getElem?_getD, h1]; rfl
  have e2 : r.getD i 0 = x := by rw [List.getD_eq_getElem?_getD, h2]; rfl
  unfold px
  rw [e1, e2]
theorem pic_ext {w h : Nat} {R S : Pic} (G1 : Good w h R) (G2 : Good w h S) (e : ∀ j i, j < h → i < w → px R j i = px S j i) : R = S := by
  refine List.ext_getElem? fun j => ?_
  by_cases hj : j < h
  · obtain ⟨r, er, lr⟩ := good_row G1 hj
    obtain ⟨s, es, ls⟩ := good_row G2 hj
    rw [er, es]
    congr 1
    refine List.ext_getElem? fun i => ?_
    by_cases hi : i < w
    · obtain ⟨x, ex⟩ := row_at lr hi
      obtain ⟨y, ey⟩ := row_at ls hi
      have := e j i hj hi
      rw [px_at er ex, px_at es ey] at this
      rw [ex, ey, this]
    · rw [List.getElem?_eq_none (by omega), List.getElem?_eq_none (by omega)]
  · rw [List.getElem?_eq_none (by rw [G1.h]; omega), List.getElem?_eq_none (by rw [G2.h]; omega)]
theorem shar_lt (x y : Nat) (h1 : x < 10) (h2 : y < 10) : sharD x y < 10 := by
  unfold sharD
  split <;> omega
abbrev aP (R S : Pic) : Pic := zipP sharD R S
theorem gA {w h : Nat} {R S : Pic} (G1 : Good w h R) (G2 : Good w h S) : Good w h (aP R S) := good_zip shar_lt G1 G2
/-! ### promises -/
/-- a good picture stands there -/
structure PicG (C : Addr) (H : Hp) (p : Addr) (w h : Nat) (R : Pic) : Prop where
  at_ : PicAt C H p R w h
  g : Good w h R
section
variable {K : PySem.W.Frag} {mg : Str → Option Value} {C CU p q b : Addr} {H H' : Hp} {w h w' h' : Nat} {R S : Pic} {E : XK} {Q : VK}
theorem PicG.same (x : PicG C H p w h R) (e : Same H H') : PicG C H' p w h R := ⟨x.at_.same e, x.g⟩
theorem PicG.extN (x : PicG C H p w h R) (e : LamX.ExtN H H') : PicG C H' p w h R := ⟨x.at_.extN e, x.g⟩
end
end Hf
namespace PySem.W
open PySem
end PySem.W
namespace Hf
open PySem PySem.Spec PyProof.Rows L2
theorem rd_par3 {i j l : Nat} {t : TA} {D : Ends} {σ : L2.St} {H : Hp} (q : t σ H fun vs H1 => ∃ u v w, vs = [u, v, w] ∧ D.nx (((σ.set i (some u)).set j (some v)).set l (some w)) H1) : L2.tPar3 i j l t D σ H := q
theorem F2.get {α β : Type} {R : α → β → Prop} {as : List α} {bs : List β} (h : F2 R as bs) {i : Nat} {a : α} (ha : as[i]? = some a) : ∃ b, bs[i]? = some b ∧ R a b := by
  induction h generalizing i with
  | nil => cases ha
  | cons x r ih =>
    cases i with
    | zero => cases ha; exact ⟨_, rfl, x⟩
    | succ i => exact ih ha
theorem F2.len {α β : Type} {R : α → β → Prop} {as : List α} {bs : List β} (h : F2 R as bs) : as.length = bs.length := by
  induction h with
  | nil => rfl
  | cons x r ih => rw [List.length_cons, List.length_cons, ih]
end Hf
namespace Hf
open PySem PySem.Spec PyProof.Rows L2
/-! ### how often a sign stands in a text -/
end Hf
namespace Hf
open PySem PySem.Spec PyProof.Rows L2
/-! ### enumerate over a tuple -/
set_option maxHeartbeats 1000000 in
theorem en_new {v : Value} {ob : Obj} {Z : Heap → Prop} (B : Begins v ob Z) :
    Meets (Builtin.«enumerate.__new__» ⟨[.type "enumerate", v], []⟩) (fun _ R s0 => Z s0.heap ∧ R (.ok (.ret (.ref (s0.heap.push ob).objs.size)))
      { s0 with heap := (s0.heap.push ob).push { cls := .type "enumerate", data := .fields #[.none, .bool false, .ref s0.heap.objs.size, rawInt 0, .none, .none] } }) :=
  .of_wp fun prog w A R s0 h0 => by
    obtain ⟨hp, g0, d0, tk0, os0⟩ := s0; obtain ⟨z1, k1⟩ := h0
    have hsub := sub_enumerate
    have it1 : ∀ {A' : Around} {E' : Value → Shared → Prop} {Q' : Value → Shared → Prop}, Q' (.ref hp.objs.size) ⟨hp.push ob, g0, d0, tk0, os0⟩ → wpAny (model prog w) A' (pyIter v) Q' E' ⟨hp, g0, d0, tk0, os0⟩ :=
      fun q' => B.iter prog w _ _ ⟨hp, g0, d0, tk0, os0⟩ _ z1 q'
    wp_walk using it1
    refine wpAny_stack_any fun st0 => wpAny_pure ?_
    split
    · rename_i c0 _ _ _ _ _
      cases (c0 == Value.type "enumerate")
      · wp_walk using it1
        exact ⟨_, rfl, k1⟩
      · wp_walk using it1
        exact ⟨_, rfl, k1⟩
    · wp_walk using it1
      exact ⟨_, rfl, k1⟩
theorem en_begins {prog : Program} {w : World} {A : Around} {E : Value → Shared → Prop} {s : Shared} {v : Value} {ob : Obj} {Z : Heap → Prop} {Q : Value → Shared → Prop} (B : Begins v ob Z) (z1 : Z s.heap)
    (q : ∀ h', IsEnum h' (s.heap.objs.size + 1) s.heap.objs.size 0 .none → h'.get? s.heap.objs.size = some ob → (∀ b o, s.heap.get? b = some o → h'.get? b = some o) → Q (.ref (s.heap.objs.size + 1)) { s with heap := h' }) :
    wpAny (model prog w) A (call (.type "enumerate") [v]) Q E s := by
  refine callType_new F.called_enumerate (by decide) (F.typeCall_enumerate_1 _) (F.newCall_enumerate_1 _) (fun o => F.args_object_init_2 o _) F.entry_enumerate_new (en_new B) ⟨z1, ?_⟩
  have sz : (s.heap.push ob).objs.size = s.heap.objs.size + 1 := Heap.size_push ..
  show _ ∧ _
  rw [sz]
  have en : IsEnum ((s.heap.push ob).push { cls := .type "enumerate", data := .fields #[.none, .bool false, .ref s.heap.objs.size, rawInt 0, .none, .none] }) (s.heap.objs.size + 1) s.heap.objs.size 0 .none := by
    have t := Heap.get?_push_size (s.heap.push ob) (o := { cls := .type "enumerate", data := .fields #[.none, .bool false, .ref s.heap.objs.size, rawInt 0, .none, .none] }) rfl
    rw [sz] at t
    exact t
  exact ⟨⟨_, en, rfl⟩, q _ en (Heap.get?_push_of_some _ (Heap.get?_push_size _ B.free)) fun b o x => Heap.get?_push_of_some _ (Heap.get?_push_of_some _ x)⟩
def IteT (K : PySem.W.Frag) (a : Addr) : It :=
  ⟨fun i H => ∃ (xs : List V) (x : V), SqT K H a xs ∧ xs[i]? = some x, fun i H v H' => ∃ t x, v = .ref t ∧ H t = none ∧ H' = upd H t (.tup [.int (i : Nat), x]) ∧ ∀ xs, SqT K H a xs → xs[i]? = some x, fun i H => ∃ xs : List V, SqT K H a xs ∧ xs.length = i⟩
theorem turn_enumT {P : Program} {w : World} {K : PySem.W.Frag} {elts : List Expr} {kk : Nat} {tpos : Pos} (a n : Addr) (hn : a < n) :
    Turn P w K (.Tuple elts kk tpos) (IteT K a) [n + 1, n] (n + 1) (fun i h => (∃ old, IsEnum h (n + 1) n ((i : Nat) : Int) old) ∧ h.IsTupleIter n a i) where
  mem := List.mem_cons_self
  obj := fun i h st c hc => by
    obtain ⟨⟨old, z1⟩, ⟨o, z2, _, z3⟩⟩ := st
    have : c = n + 1 ∨ c = n := by simpa using hc
    rcases this with e | e <;> rw [e]
    · exact ⟨_, z1, fun v z => nomatch z⟩
    · exact ⟨o, z2, fun v z => by rw [z3] at z; cases z⟩
  keep := fun i h h' st k => by
    obtain ⟨⟨old, z1⟩, z2⟩ := st
    exact ⟨⟨old, k _ (by simp) _ z1⟩, z2.at fun o q => k n (by simp) o q⟩
  item := by
    intro X hP hw hK hc i pins s σ H E I hf st hg
    subst hP hw hK
    obtain ⟨⟨old, z1⟩, z2⟩ := st
    obtain ⟨xs, x, hq, hx⟩ := hg
    obtain ⟨its, rv, p, hz⟩ := I.tuple hq
    obtain ⟨u, hu, ru⟩ := rv.get hx
    have big : n + 1 < s.heap.objs.size := Heap.lt_size z1
    have an : a ≠ n := Nat.ne_of_lt hn
    have an1 : a ≠ n + 1 := Nat.ne_of_lt (Nat.lt_succ_of_lt hn)
    have nn : n + 1 ≠ n := Nat.succ_ne_self n
    have D := Draws.tuple (prog := X.prog) (w := X.w) (A := X.A.in1) (I.ok.hd hc) n a an its.toArray
    have il : i < its.toArray.size := by
      obtain ⟨l, _⟩ := List.getElem?_eq_some_iff.mp hu
      simpa using l
    refine PySem.wpAny_pyNext_enum_itemC D z1 ⟨z2, p⟩ il nn (by simp [nn, Ne.symm an1]) fun y h' tk hy ho hs' hT sz hk => ?_
    have ey : y = u := by
      have : its.toArray[i]? = some u := by simpa using hu
      rw [this] at hy
      exact (Option.some.inj hy).symm
    subst ey
    refine ⟨_, rfl, wpAny_letOwnedTupleGo_enum (s := { s with heap := h', toks := tk + 1 }) ho fun h2 y1 sb => ?_⟩
    have gT : h2.get? s.heap.objs.size = some { cls := .type "tuple", data := .seq #[.int i tk, y] } := (sb.2 _ (Nat.ne_of_gt big)).trans hT
    have new : ObjOk X.prog X.w (upd H s.heap.objs.size (.tup [.int (i : Nat), x])) h2 s.heap.objs.size (.tup [.int (i : Nat), x]) :=
      ⟨by show 2 ≤ sizeLine; decide, _, .cons ⟨tk, rfl⟩ (.cons ru .nil), ⟨_, gT, rfl, _, rfl⟩⟩
    have J : Inv X pins σ (upd H s.heap.objs.size (.tup [.int (i : Nat), x])) { s with heap := h2, toks := tk + 1 } :=
      I.turnedNew (t' := tk + 1) (ch := [n + 1, n]) (fun e o he g => (sb.2 e fun z => he (by simp [z])).trans (hk e o (fun z => he (by simp [z])) (fun z => he (by simp [z])) g)) hf (Nat.le_refl _) new
    refine ⟨.ref s.heap.objs.size, _, J, rfl, ⟨_, x, rfl, I.hok.fresh (Nat.le_refl _), rfl, fun ys hy => by rw [I.tuple_inj hy hq]; exact hx⟩, ⟨⟨y, y1⟩, hs'.1.at fun o q => (sb.2 n nn.symm).trans q⟩, fun e he => ?_⟩
    have lt : e < s.heap.objs.size := by
      have : e = n + 1 ∨ e = n := by simpa using he
      rcases this with z | z <;> rw [z]
      · exact big
      · exact Nat.lt_of_succ_lt big
    rw [upd_ne (Nat.ne_of_lt lt)]
    exact (hf e he).1
  done := by
    intro X hP hw hK hc i pins s σ H E I hf st hg
    subst hP hw hK
    obtain ⟨⟨old, z1⟩, z2⟩ := st
    obtain ⟨xs, hq, rfl⟩ := hg
    obtain ⟨its, rv, p, hz⟩ := I.tuple hq
    obtain ⟨f0, f1, f2, f3, f4, f5⟩ := hf n (by simp)
    have hl := rv.length
    have D := Draws.tuple (prog := X.prog) (w := X.w) (A := X.A.in1) (I.ok.hd hc) n a (Nat.ne_of_lt hn) its.toArray
    have e : its.toArray.size = xs.length := by simp [hl]
    rw [← e] at z1 z2
    exact PySem.wpAny_pyNext_enum_endD D z1 ⟨z2, p⟩ fun h' eb => ⟨rfl, I.turned (t' := s.toks) (fun b o hb q => eb b o hb q) f0 f1 f3 f4 f5⟩
  self := fun A i s Q E st h => let ⟨⟨_, z1⟩, _⟩ := st; wpAny_pyIter_enum z1 h
def iEnumT (K : PySem.W.Frag) (ta : TA) : TI := fun σ H R => ta σ H fun vs H1 => ∃ a xs, vs = [.ref a] ∧ SqT K H1 a xs ∧ R (IteT K a) H1
theorem pi_enumT {X : Cx} {e : Expr} {ta : TA} {p pos tpos : Pos} {elts : List Expr} {kk : Nat} (hg : Gl X "enumerate") (hm : X.mg "enumerate" = none) (ha : PA X [e] ta) (hs : starEach [e] X.env = [(false, eval e X.env)] := by rfl) : PI X (.Tuple elts kk tpos) (.Call (.Name "enumerate" p) [e] [] pos) (iEnumT X.K ta) := by
  refine ⟨fun pins s σ H R I h => ?_⟩
  refine Call_ (ld_blt I hg hm PyProof.Rows.boot_enumerate (PyProof.Rows.callWith_type1 (thn (ha.run pos pins s σ H _ I h) fun us s1 ⟨vs, H1, I1, r1, q1⟩ => ?_) hs rfl))
  obtain ⟨a, xs, ex, hq, q⟩ := q1
  subst ex
  obtain ⟨u, rfl, rfl⟩ : ∃ u, us = [u] ∧ u = .ref a := by
    cases r1 with
    | cons r rr =>
      cases rr
      exact ⟨_, rfl, r⟩
  obtain ⟨its, rv, p', hz⟩ := I1.tuple hq
  have la : a < s1.heap.objs.size := by
    obtain ⟨o, ho, _⟩ := p'
    exact Heap.lt_size ho
  refine en_begins (begins_tuple a its.toArray) p' fun h' z1 z2 zk => wpAny_pyIter_enum z1 ?_
  have J : Inv X pins σ H1 { s1 with heap := h' } := I1.kept (t' := s1.toks) zk
  refine ⟨s1.heap.objs.size + 1, [s1.heap.objs.size + 1, s1.heap.objs.size], _, _, H1, rfl, J, turn_enumT a s1.heap.objs.size la, ⟨⟨.none, z1⟩, ⟨_, z2, rfl, rfl⟩⟩, fun c hc => ?_, q⟩
  have : c = s1.heap.objs.size + 1 ∨ c = s1.heap.objs.size := by simpa using hc
  have hle : s1.heap.objs.size ≤ c := by
    rcases this with z | z <;> rw [z]
    · exact Nat.le_add_right _ _
    · exact Nat.le_refl _
  exact I1.fpOk hle (I1.hok.fresh hle)
theorem walk_enumT {K : PySem.W.Frag} {a : Addr} {xs : List V} : Walk (IteT K a) xs.length (fun H => SqT K H a xs) (YPair (fun i => some (.int (i : Nat))) (fun i => xs[i]?)) :=
  ⟨fun i H hi h => ⟨xs, xs[i], h, List.getElem?_eq_getElem hi⟩, fun H h => ⟨xs, h, rfl⟩, fun i H x H' hi h ⟨t, z, e1, e2, e3, e4⟩ => ⟨t, .int (i : Nat), z, e1, e2, e3, rfl, e4 xs h⟩⟩
/-- either of two roads -/
theorem pi_or {X : Cx} {tg e : Expr} {t1 t2 : TI} (h1 : PI X tg e t1) (h2 : PI X tg e t2) : PI X tg e (fun σ H R => t1 σ H R ∨ t2 σ H R) := ⟨fun pins s σ H R I h => h.elim (h1.run pins s σ H R I) (h2.run pins s σ H R I)⟩
end Hf
namespace Hf
open PySem PySem.Spec PyProof.Rows L2
/-! ### p[e] by an own __getitem__ -/
def MetF (P : Program) (w : World) (K : PySem.W.Frag) (mg : Str → Option Value) (base : Heap) (k : Nat) (C : Addr) (m : Str) (sp : Sp) : Prop := ∃ g, Opr K C m g ∧ PySem.W.fnIn K g = true ∧ FnR P w K mg base (L2.CX P w) k g sp
def rGet (C : Addr) (sp : Sp) (E : XK) : R2 := fun x y H Q => ∃ a dx fs, x = .ref a ∧ H a = some (.ins C dx fs) ∧ sp [x, y] H Q E
theorem pe_getM {X : Cx} {C : Addr} {sp : Sp} {E : XK} {k j : Nat} {a b : Expr} {ta tb : TE} {pos : Pos} (M : MetF X.prog X.w X.K X.mg X.base k C "__getitem__" sp) (hr : Room j X.A) (hx : Passes (L2.CX X.prog X.w) X E) (ha : PE X a ta) (hb : PE X b tb) (hk : k + 1 ≤ j := by decide)
    (hsl : ∀ x i, subscripted b true (.ref x) i = runValue (.builtin "lifetime.subscript" ⟨[.ref x, i], []⟩) := by intro x i; with_unfolding_all rfl) : PE X (.Subscript a b pos) (tOp (rGet C sp E) ta tb) := by
  obtain ⟨g, o, fi, F⟩ := M
  refine ⟨fun pins s σ H Q I h => ?_⟩
  refine Subscript_ (binT ha hb I h fun v u s2 x y H2 I2 rx ry q => ?_)
  obtain ⟨p, dx, fs, rfl, hp, q⟩ := q
  cases (show v = Value.ref p from rx)
  obtain ⟨ox, od, J⟩ := ins_at I2 hp
  obtain ⟨m, hF⟩ := I2.fr
  refine PySem.W.sub_K hF I2.ok.mod.kin J o.at_ fi o.fn ?_ (hsl _ _)
  exact wpAny_call (SlX.run_at (A := X.A.in1) (us := [.ref p, u]) (ws := [.ref p, y]) F ((hr.mono hk).in1) I2.env0.in1 hx I2 (.cons rfl (.cons ry .nil)) q)
/-! ### C.m(k = ..), m a staticmethod -/
def tStaK (C : Addr) (m : Nat) (q : List V → List V) (sp : Sp) (E : XK) (ta : TE) (tk : TA) : TE := fun σ H Q => ta σ H fun x H1 => x = .ref C ∧ tk σ H1 (ClKK m q sp E Q)
theorem rd_staK {C : Addr} {m : Nat} {q : List V → List V} {sp : Sp} {E : XK} {ta : TE} {tk : TA} {σ : L2.St} {H : Hp} {Q : VK} (z : ta σ H fun x H1 => x = .ref C ∧ tk σ H1 (ClKK m q sp E Q)) : tStaK C m q sp E ta tk σ H Q := z
/-! ### readings -/
theorem rd_cval {K : PySem.W.Frag} {ta : TE} {f : Str} {σ : L2.St} {H : Hp} {Q : VK} (q : ta σ H fun x H1 => ∃ C mc v u, x = .ref C ∧ ClX.CRead K C mc ∧ ClX.CVal K C mc f v u ∧ Q v H1) : ClX.tCVal K ta f σ H Q := q
def iEnumA (K : PySem.W.Frag) (ta : TA) : TI := fun σ H R => iEnum K ta σ H R ∨ iEnumT K ta σ H R
theorem pi_enumA {X : Cx} {e : Expr} {ta : TA} {p pos tpos : Pos} {elts : List Expr} {kk : Nat} (hg : Gl X "enumerate") (hm : X.mg "enumerate" = none) (ha : PA X [e] ta) (hs : starEach [e] X.env = [(false, eval e X.env)] := by rfl) : PI X (.Tuple elts kk tpos) (.Call (.Name "enumerate" p) [e] [] pos) (iEnumA X.K ta) := pi_or (pi_enum hg hm ha hs) (pi_enumT hg hm ha hs)
end Hf
namespace Hf
open PySem PySem.Spec PyProof.Rows L2
section
variable {P : Program} {w : World} {K : PySem.W.Frag} {mg : Str → Option Value} {base : Heap} {k : Nat} {x m : Str} {C : Addr} {sp sp' : Sp}
theorem Cal.imp (M : Cal P w K mg base k x sp) (h : ∀ vs H Q E, sp' vs H Q E → sp vs H Q E) : Cal P w K mg base k x sp' := let ⟨f, F, z⟩ := M; ⟨f, F.imp h, z⟩
theorem Met.imp (M : Met P w K mg base k C m sp) (h : ∀ vs H Q E, sp' vs H Q E → sp vs H Q E) : Met P w K mg base k C m sp' := let ⟨f, F, z⟩ := M; ⟨f, F.imp h, z⟩
theorem Mak.imp (M : Mak P w K mg base k x C sp) (h : ∀ vs H Q E, sp' vs H Q E → sp vs H Q E) : Mak P w K mg base k x C sp' := let ⟨f, F, z⟩ := M; ⟨f, F.imp h, z⟩
end
/-! ### rows in a list or in a tuple -/
theorem rd_enumL {K : PySem.W.Frag} {ta : TA} {σ : L2.St} {H : Hp} {R : It → Hp → Prop} (q : ta σ H fun vs H1 => ∃ a xs, vs = [.ref a] ∧ SqL K H1 a xs ∧ R (Ite K a) H1) : iEnumA K ta σ H R := .inl q
theorem rd_enumT {K : PySem.W.Frag} {ta : TA} {σ : L2.St} {H : Hp} {R : It → Hp → Prop} (q : ta σ H fun vs H1 => ∃ a xs, vs = [.ref a] ∧ SqT K H1 a xs ∧ R (IteT K a) H1) : iEnumA K ta σ H R := .inr q
def RowsS (K : PySem.W.Frag) (H : Hp) (l : Addr) (R : Pic) : Prop := SqL K H l (R.map rowV) ∨ SqT K H l (R.map rowV)
theorem same_tup {K : PySem.W.Frag} {H H' : Hp} {a : Addr} {xs : List V} (e : Same H H') (h : SqT K H a xs) : SqT K H' a xs := h.imp (fun z => z.imp (fun q => e _ _ q) fun ⟨o, q⟩ => ⟨o, e _ _ q⟩) id
theorem RowsS.same {K : PySem.W.Frag} {H H' : Hp} {l : Addr} {R : Pic} (h : RowsS K H l R) (e : Same H H') : RowsS K H' l R := h.imp (fun z => e.seq z) (fun z => same_tup e z)
theorem use_ixA {K : PySem.W.Frag} {H : Hp} {l : Addr} {R : Pic} {i : Nat} {r : List Nat} {Q : VK} (h : RowsS K H l R) (hi : R[i]? = some r) (q : Q (rowV r) H) : rIx K (.ref l) (.int (i : Int)) H Q := by
  have e : atI (R.map rowV) (i : Int) = some (rowV r) := atI_nat (by rw [List.getElem?_map, hi]; rfl)
  rcases h with h | h
  · exact .inl (use_ixL h e q)
  · exact .inr (.inl (use_ixT h e q))
def spWLineA (K : PySem.W.Frag) : Sp := fun vs H Q _ => ∃ (l : Addr) (R : Pic) (w h : Nat), vs = [.ref l] ∧ RowsS K H l R ∧ Good w h R ∧ Fit w h ∧ ∀ H', Same H H' → Q .non H'
def RowsO (H : Hp) (l : Addr) (R : Pic) : Prop := H l = some (.lst (R.map rowV)) ∨ H l = some (.tup (R.map rowV))
theorem RowsO.same {H H' : Hp} {l : Addr} {R : Pic} (h : RowsO H l R) (e : Same H H') : RowsO H' l R := h.imp (fun z => e _ _ z) (fun z => e _ _ z)
def spPicA (C : Addr) : Sp := fun vs H Q _ => ∃ (p dx l : Addr) (R : Pic) (w h : Nat), vs = [.ref p, .ref l] ∧ H p = some (.ins C dx []) ∧ RowsO H l R ∧ Good w h R ∧ Fit w h ∧ ∀ H', PicAt C H' p R w h → Keep p H H' → Q .non H'
theorem use_picA {C : Addr} {H : Hp} {R : Pic} {w h : Nat} {l : Addr} {Q : VK} {E : XK} (hl : RowsO H l R) (hG : Good w h R) (hF : Fit w h) (k : ∀ (p : Addr) (H' : Hp), H p = none → PicG C H' p w h R → Same H H' → Q (.ref p) H') : MakeK C (spPicA C) E Q [.ref l] H := by
  intro x dx hx hdx hne
  have sm : Same H (upd (upd H dx (.own x)) x (.ins C dx [])) := fun b u e => by
    rw [upd_ne (ne_of_none e hx), upd_ne (ne_of_none e hdx)]
    exact e
  exact ⟨x, dx, l, R, w, h, rfl, upd_same, hl.same sm, hG, hF, fun H' g kp => ⟨rfl, k x H' hx ⟨g, hG⟩ fun b u e => kp b u (sm b u e) (ne_of_none e hx)⟩⟩
/-! ### colours -/
def spColA (K : PySem.W.Frag) : Sp := fun vs H Q _ => ∃ v : V, vs = [v] ∧ ((NotW K H v ∧ Q (.bl false) H) ∨ ∃ i : Int, v = .int i ∧ Q (.bl (decide (0 ≤ i) && decide (i ≤ 9))) H)
theorem ch_bl {r' : R2} {tc : TE} {σ : L2.St} {y : V} {Q : VK} {H : Hp} {b : Bool} (h1 : b = true → tc σ H fun w' H4 => r' y w' H4 Q) (h2 : b = false → Q (.bl false) H) : ChK r' tc σ y Q (.bl b) H := by
  refine ⟨b, rfl, ?_⟩
  cases b with
  | true => exact iteT (h1 rfl)
  | false => exact iteF (h2 rfl)
/-! ### pixels -/
def insideB (w h : Nat) (x y : Int) : Bool := (decide (0 ≤ y) && decide (y < h)) && (decide (0 ≤ x) && decide (x < w))
def spInside (K : PySem.W.Frag) : Sp := fun vs H Q _ => ∃ (l : Addr) (R : Pic) (w h : Nat) (x y : Int), vs = [.ref l, .int x, .int y] ∧ RowsS K H l R ∧ Good w h R ∧ Fit w h ∧ Q (.bl (insideB w h x y)) H
def spNPix (K : PySem.W.Frag) : Sp := fun vs H Q _ => ∃ (l : Addr) (R : Pic) (w h : Nat) (x y : Int), vs = [.ref l, .int x, .int y] ∧ RowsS K H l R ∧ Good w h R ∧ Fit w h ∧ insideB w h x y = true ∧ Q .non H
def spGet (C : Addr) : Sp := fun vs H Q _ => ∃ (p t : Addr) (R : Pic) (w h i j d : Nat) (r : List Nat), vs = [.ref p, .ref t] ∧ PicG C H p w h R ∧ Fit w h ∧ H t = some (.tup [.int i, .int j]) ∧ i < w ∧ j < h ∧ R[j]? = some r ∧ r[i]? = some d ∧ Q (.int d) H
theorem use_get {C p t : Addr} {H : Hp} {R : Pic} {w h i j d : Nat} {r : List Nat} {Q : VK} {E : XK} (g : PicG C H p w h R) (F : Fit w h) (ht : H t = some (.tup [.int i, .int j])) (hi : i < w) (hj : j < h) (er : R[j]? = some r) (ed : r[i]? = some d) (q : Q (.int d) H) : rGet C (spGet C) E (.ref p) (.ref t) H Q := by
  obtain ⟨dx, t0, e1, e2⟩ := g.at_
  exact ⟨p, dx, _, rfl, e1, p, t, R, w, h, i, j, d, r, rfl, g, F, ht, hi, hj, er, ed, q⟩
theorem int_digit {d : Nat} (h : d < 10) : PySem.intText? (rowS [d]) = some (d : Int) := by
  have : ∀ m : Fin 10, PySem.intText? (rowS [m.val]) = some ((m.val : Nat) : Int) := by decide +kernel
  exact this ⟨d, h⟩
/-! ### which colours are in -/
/-! ### == of a picture and anything -/
/-! ### repr of rows -/
/-! ### the law's own -/
end Hf
namespace Hf
open PySem PySem.Spec PyProof.Rows L2
/-! ### {k: v}, k a tuple -/
/-! ### xs[::e] of a list, e 1 or -1 -/
def tStepL (K : PySem.W.Frag) (te : TE) (tp : TO) : TE := fun σ H Q => te σ H fun x H1 => tp σ H1 fun o H2 => ∃ a xs, x = .ref a ∧ SqL K H2 a xs ∧ ((o = some 1 ∧ ∀ p, H2 p = none → Q (.ref p) (upd H2 p (.lst xs))) ∨ (o = some (-1) ∧ ∀ p, H2 p = none → Q (.ref p) (upd H2 p (.lst xs.reverse))))
theorem rd_stepL {K : PySem.W.Frag} {te : TE} {tp : TO} {σ : L2.St} {H : Hp} {Q : VK} (q : te σ H fun x H1 => tp σ H1 fun o H2 => ∃ a xs, x = .ref a ∧ SqL K H2 a xs ∧ ((o = some 1 ∧ ∀ p, H2 p = none → Q (.ref p) (upd H2 p (.lst xs))) ∨ (o = some (-1) ∧ ∀ p, H2 p = none → Q (.ref p) (upd H2 p (.lst xs.reverse))))) : tStepL K te tp σ H Q := q
end Hf
namespace Hf
open PySem PySem.Spec PyProof.Rows L2
/-! ### pixels and what hangs together (no program in sight) -/
abbrev Pt := Int × Int
def nbr (p : Pt) : List Pt := [(p.1, p.2 - 1), (p.1 - 1, p.2), (p.1 + 1, p.2), (p.1, p.2 + 1)]
/-- the colour at a pixel, none beyond the picture -/
def colA (R : Pic) (p : Pt) : Option Nat := if 0 ≤ p.1 ∧ 0 ≤ p.2 then (R[p.2.toNat]?).bind fun r => r[p.1.toNat]? else none
inductive Conn (R : Pic) (p : Pt) : Pt → Prop
  | refl (h : (colA R p).isSome = true) : Conn R p p
  | step {q r : Pt} (h : Conn R p q) (a : r ∈ nbr q) (c : colA R r = colA R p) : Conn R p r
theorem nbr_symm {p q : Pt} (h : q ∈ nbr p) : p ∈ nbr q := by
  obtain ⟨a, b⟩ := p
  obtain ⟨c, d⟩ := q
  simp only [nbr, List.mem_cons, List.not_mem_nil, or_false, Prod.mk.injEq] at *
  omega
theorem Conn.col {R : Pic} {p q : Pt} (h : Conn R p q) : colA R q = colA R p := by
  cases h with
  | refl h => rfl
  | step h a c => exact c
theorem Conn.some {R : Pic} {p q : Pt} (h : Conn R p q) : (colA R p).isSome = true := by
  induction h with
  | refl h => exact h
  | step h a c ih => exact ih
theorem Conn.trans {R : Pic} {p q r : Pt} (h : Conn R p q) (g : Conn R q r) : Conn R p r := by
  induction g with
  | refl _ => exact h
  | step _ a c ih => exact .step ih a (c.trans h.col)
theorem Conn.head {R : Pic} {p q r : Pt} (hp : (colA R p).isSome = true) (a : q ∈ nbr p) (c : colA R q = colA R p) (g : Conn R q r) : Conn R p r := Conn.trans (.step (.refl hp) a c) g
theorem Conn.symm {R : Pic} {p q : Pt} (h : Conn R p q) : Conn R q p := by
  induction h with
  | refl h => exact .refl h
  | @step q r h a c ih =>
    refine Conn.head ?_ (nbr_symm a) (h.col.trans c.symm) ih
    rw [c]
    exact h.some
theorem col_in {w h : Nat} {R : Pic} (G : Good w h R) {p : Pt} (c : (colA R p).isSome = true) : 0 ≤ p.1 ∧ p.1 < w ∧ 0 ≤ p.2 ∧ p.2 < h := by
  unfold colA at c
  by_cases e : 0 ≤ p.1 ∧ 0 ≤ p.2
  · rw [if_pos e] at c
    cases er : R[p.2.toNat]? with
    | none => rw [er] at c; cases c
    | some r =>
      rw [er] at c
      cases ed : r[p.1.toNat]? with
      | none => rw [Option.bind_some, ed] at c; cases c
      | some d =>
        have h1 := (List.getElem?_eq_some_iff.mp er).1
        have h2 := (List.getElem?_eq_some_iff.mp ed).1
        rw [G.h] at h1
        rw [G.w r (List.mem_of_getElem? er)] at h2
        omega
  · rw [if_neg e] at c
    cases c
/-! ### a search -/
abbrev Fd := List (Pt × Option Pt)
def hasK (F : Fd) (q : Pt) : Bool := F.any fun e => decide (e.1 = q)
def addB (R : Pic) (p here : Pt) (F : Fd) (q : Pt) : Fd := if hasK F q = false ∧ colA R q = colA R p then F ++ [(q, some here)] else F
def turnB (R : Pic) (p : Pt) (F : Fd) (here : Pt) : Fd := (nbr here).foldl (addB R p here) F
inductive BfS (R : Pic) (p : Pt) : Nat → Fd → Prop
  | zero : BfS R p 0 [(p, none)]
  | succ {n : Nat} {F : Fd} {e : Pt × Option Pt} (h : BfS R p n F) (g : F[n]? = some e) : BfS R p (n + 1) (turnB R p F e.1)
def keysF (F : Fd) : List Pt := F.map (·.1)
theorem hasK_iff {F : Fd} {q : Pt} : hasK F q = true ↔ q ∈ keysF F := by
  unfold hasK keysF
  simp only [List.any_eq_true, decide_eq_true_eq, List.mem_map]
theorem hasK_no {F : Fd} {q : Pt} : hasK F q = false ↔ q ∉ keysF F := by
  rw [← hasK_iff]
  cases hasK F q <;> simp
section
variable {R : Pic} {p here : Pt}
theorem add_pre (F : Fd) (q : Pt) : ∃ X, addB R p here F q = F ++ X := by
  unfold addB
  by_cases e : hasK F q = false ∧ colA R q = colA R p
  · rw [if_pos e]; exact ⟨_, rfl⟩
  · rw [if_neg e]; exact ⟨[], by simp⟩
theorem fold_pre : ∀ (qs : List Pt) (F : Fd), ∃ X, qs.foldl (addB R p here) F = F ++ X
  | [], F => ⟨[], by simp⟩
  | q :: qs, F => by
    obtain ⟨X, e⟩ := add_pre (R := R) (p := p) (here := here) F q
    obtain ⟨Y, e2⟩ := fold_pre qs (addB R p here F q)
    exact ⟨X ++ Y, by rw [List.foldl_cons, e2, e, List.append_assoc]⟩
/-- what stays true of the entries -/
structure OkF (R : Pic) (p : Pt) (F : Fd) : Prop where
  nd : (keysF F).Nodup
  cn : ∀ q ∈ keysF F, Conn R p q
theorem OkF.add {F : Fd} (h : OkF R p F) (hh : Conn R p here) {q : Pt} (a : q ∈ nbr here) : OkF R p (addB R p here F q) := by
  unfold addB
  by_cases e : hasK F q = false ∧ colA R q = colA R p
  · rw [if_pos e]
    have e1 := hasK_no.mp e.1
    have ek : keysF (F ++ [(q, some here)]) = keysF F ++ [q] := by simp [keysF]
    refine ⟨?_, ?_⟩
    · rw [ek, List.nodup_append]
      refine ⟨h.nd, by simp, ?_⟩
      intro x hx y hy
      rw [List.mem_singleton.mp hy]
      intro z
      exact e1 (z ▸ hx)
    · rw [ek]
      intro x hx
      rcases List.mem_append.mp hx with hx | hx
      · exact h.cn x hx
      · rw [List.mem_singleton.mp hx]
        exact .step hh a e.2
  · rw [if_neg e]
    exact h
theorem OkF.fold : ∀ {qs : List Pt} {F : Fd}, OkF R p F → Conn R p here → (∀ q ∈ qs, q ∈ nbr here) → OkF R p (qs.foldl (addB R p here) F)
  | [], F, h, _, _ => h
  | q :: qs, F, h, hh, hq => by
    rw [List.foldl_cons]
    exact OkF.fold (qs := qs) (h.add hh (hq q List.mem_cons_self)) hh fun x hx => hq x (List.mem_cons_of_mem _ hx)
theorem pre_mem {F G : Fd} {q : Pt} (h : ∃ X, G = F ++ X) (m : q ∈ keysF F) : q ∈ keysF G := by
  obtain ⟨X, rfl⟩ := h
  unfold keysF
  rw [List.map_append]
  exact List.mem_append_left _ m
theorem fold_all : ∀ {qs : List Pt} {F : Fd} {q : Pt}, q ∈ qs → colA R q = colA R p → q ∈ keysF (qs.foldl (addB R p here) F)
  | q' :: qs, F, q, hq, c => by
    rw [List.foldl_cons]
    rcases List.mem_cons.mp hq with e | hq
    · subst e
      refine pre_mem (fold_pre qs _) ?_
      unfold addB
      by_cases e : hasK F q = false ∧ colA R q = colA R p
      · rw [if_pos e]
        simp [keysF]
      · rw [if_neg e]
        refine hasK_iff.mp ?_
        cases z : hasK F q with
        | true => rfl
        | false => exact absurd ⟨z, c⟩ e
    · exact fold_all hq c
end
theorem BfS.ok {R : Pic} {p : Pt} {n : Nat} {F : Fd} (hp : (colA R p).isSome = true) (h : BfS R p n F) : OkF R p F ∧ n ≤ F.length ∧ p ∈ keysF F ∧ ∀ m e, m < n → F[m]? = some e → ∀ q ∈ nbr e.1, colA R q = colA R p → q ∈ keysF F := by
  induction h with
  | zero =>
    refine ⟨⟨by simp [keysF], fun q hq => ?_⟩, Nat.zero_le _, by simp [keysF], fun m e hm => absurd hm (by omega)⟩
    simp only [keysF, List.map_cons, List.map_nil, List.mem_singleton] at hq
    rw [hq]
    exact .refl hp
  | @succ n F e h g ih =>
    obtain ⟨ok, le, pm, cl⟩ := ih
    have lt := (List.getElem?_eq_some_iff.mp g).1
    have em : e.1 ∈ keysF F := List.mem_map_of_mem (List.mem_of_getElem? g)
    have pre := fold_pre (R := R) (p := p) (here := e.1) (nbr e.1) F
    refine ⟨ok.fold (ok.cn _ em) fun q hq => hq, ?_, pre_mem pre pm, fun m e' hm he' q hq c => ?_⟩
    · obtain ⟨X, z⟩ := pre
      show n + 1 ≤ ((nbr e.1).foldl (addB R p e.1) F).length
      rw [z, List.length_append]
      omega
    · have hF : F[m]? = some e' := by
        obtain ⟨X, z⟩ := pre
        have he' : ((nbr e.1).foldl (addB R p e.1) F)[m]? = some e' := he'
        rw [z, List.getElem?_append_left (by omega)] at he'
        exact he'
      by_cases em2 : m = n
      · subst em2
        rw [g] at hF
        cases hF
        exact fold_all hq c
      · exact pre_mem pre (cl m e' (by omega) hF q hq c)
/-- at the end all that hangs together is found -/
theorem BfS.done {R : Pic} {p : Pt} {F : Fd} (hp : (colA R p).isSome = true) (h : BfS R p F.length F) (q : Pt) : q ∈ keysF F ↔ Conn R p q := by
  obtain ⟨ok, _, pm, cl⟩ := h.ok hp
  refine ⟨ok.cn q, fun c => ?_⟩
  induction c with
  | refl _ => exact pm
  | @step q r h a c ih =>
    obtain ⟨e, he, rfl⟩ := List.mem_map.mp ih
    obtain ⟨m, hm, em⟩ := List.mem_iff_getElem.mp he
    exact cl m e hm (by rw [List.getElem?_eq_getElem hm, em]) r a c
/-! ### how many -/
theorem nodup_le : ∀ (N : Nat) (l : List Nat), l.Nodup → (∀ x ∈ l, x < N) → l.length ≤ N
  | 0, l, _, h => by
    cases l with
    | nil => exact Nat.le_refl _
    | cons x l => exact absurd (h x List.mem_cons_self) (by omega)
  | N + 1, l, nd, h => by
    have h1 := nodup_le N (l.erase N) (nd.erase N) fun x hx => by
      have := h x (List.mem_of_mem_erase hx)
      have := (nd.mem_erase_iff.mp hx).1
      omega
    have : l.length ≤ (l.erase N).length + 1 := by
      by_cases e : N ∈ l
      · rw [List.length_erase_of_mem e]; omega
      · rw [List.erase_of_not_mem e]; omega
    omega
theorem map_nodup {α β : Type} {f : α → β} : ∀ {l : List α}, l.Nodup → (∀ x ∈ l, ∀ y ∈ l, f x = f y → x = y) → (l.map f).Nodup
  | [], _, _ => List.nodup_nil
  | a :: l, nd, inj => by
    rw [List.nodup_cons] at nd
    rw [List.map_cons, List.nodup_cons]
    refine ⟨fun z => ?_, map_nodup nd.2 fun x hx y hy e => inj x (List.mem_cons_of_mem _ hx) y (List.mem_cons_of_mem _ hy) e⟩
    obtain ⟨y, hy, e⟩ := List.mem_map.mp z
    have := inj y (List.mem_cons_of_mem _ hy) a List.mem_cons_self e
    exact nd.1 (this ▸ hy)
theorem pts_le {w h : Nat} {l : List Pt} (nd : l.Nodup) (hb : ∀ q ∈ l, 0 ≤ q.1 ∧ q.1 < w ∧ 0 ≤ q.2 ∧ q.2 < h) : l.length ≤ w * h := by
  have h1 := nodup_le (w * h) (l.map fun q => q.2.toNat * w + q.1.toNat) (map_nodup nd fun x hx y hy e => ?_) fun z hz => ?_
  · rw [List.length_map] at h1
    exact h1
  · obtain ⟨x1, x2, x3, x4⟩ := hb x hx
    obtain ⟨y1, y2, y3, y4⟩ := hb y hy
    have hw : 0 < w := by omega
    have e1 : (x.2.toNat * w + x.1.toNat) / w = x.2.toNat := by
      rw [Nat.mul_comm, Nat.mul_add_div hw, Nat.div_eq_of_lt (by omega), Nat.add_zero]
    have e2 : (y.2.toNat * w + y.1.toNat) / w = y.2.toNat := by
      rw [Nat.mul_comm, Nat.mul_add_div hw, Nat.div_eq_of_lt (by omega), Nat.add_zero]
    have e : x.2.toNat * w + x.1.toNat = y.2.toNat * w + y.1.toNat := e
    rw [e, e2] at e1
    rw [← e1] at e
    obtain ⟨a, b⟩ := x
    obtain ⟨c, d⟩ := y
    simp only [Prod.mk.injEq]
    simp only at *
    omega
  · obtain ⟨q, hq, rfl⟩ := List.mem_map.mp hz
    obtain ⟨x1, x2, x3, x4⟩ := hb q hq
    have h2 : (q.2.toNat + 1) * w ≤ h * w := Nat.mul_le_mul_right w (by omega)
    rw [Nat.succ_mul] at h2
    rw [Nat.mul_comm w h]
    omega
theorem OkF.len {w h : Nat} {R : Pic} {p : Pt} {F : Fd} (G : Good w h R) (hp : (colA R p).isSome = true) (ok : OkF R p F) : F.length ≤ w * h := by
  have := pts_le (w := w) (h := h) ok.nd fun q hq => col_in G (by rw [(ok.cn q hq).col]; exact hp)
  unfold keysF at this
  rw [List.length_map] at this
  exact this
/-! ### in order by rows -/
def ltP (p q : Pt) : Prop := p.2 < q.2 ∨ (p.2 = q.2 ∧ p.1 < q.1)
structure Reg (R : Pic) (p : Pt) (L : List Pt) : Prop where
  pw : L.Pairwise ltP
  mem : ∀ q, q ∈ L ↔ Conn R p q
end Hf
namespace Hf
open PySem PySem.Spec PyProof.Rows L2
/-! ### in and not in of a dict -/
/-! ### pixels in the heap -/
def TupP (H : Hp) (t : Addr) (q : Pt) : Prop := H t = some (.tup [.int q.1, .int q.2])
def keyP (q : Pt) : List L2.Key := [.inl q.1, .inl q.2]
theorem TupP.key {H : Hp} {t : Addr} {q : Pt} (h : TupP H t q) : H t = some (.tup ((keyP q).map kV)) := h
theorem key_inj {p q : Pt} : keyP p = keyP q ↔ p = q := by
  constructor
  · intro h
    obtain ⟨a, b⟩ := p
    obtain ⟨c, d⟩ := q
    simp only [keyP, List.cons.injEq, Sum.inl.injEq, and_true] at h
    rw [h.1, h.2]
  · intro h; rw [h]
def ValP (H : Hp) (v : V) : Option Pt → Prop
  | none => v = .non
  | some q => ∃ t, v = .ref t ∧ TupP H t q
def DicP (H : Hp) (kvs : List (List L2.Key × V)) (F : Fd) : Prop := F2 (fun kv e => kv.1 = keyP e.1 ∧ ValP H kv.2 e.2) kvs F
/-- tuples stay -/
def KeepT (H H' : Hp) : Prop := ∀ t xs, H t = some (.tup xs) → H' t = some (.tup xs)
theorem KeepT.same {H H' : Hp} (h : Same H H') : KeepT H H' := fun t xs e => h _ _ e
theorem KeepT.trans {H H1 H2 : Hp} (a : KeepT H H1) (b : KeepT H1 H2) : KeepT H H2 := fun t xs e => b t xs (a t xs e)
theorem TupP.keep {H H' : Hp} {t : Addr} {q : Pt} (h : TupP H t q) (k : KeepT H H') : TupP H' t q := k _ _ h
theorem ValP.keep {H H' : Hp} {v : V} {o : Option Pt} (h : ValP H v o) (k : KeepT H H') : ValP H' v o := by
  cases o with
  | none => exact h
  | some q => obtain ⟨t, e, g⟩ := h; exact ⟨t, e, g.keep k⟩
theorem DicP.keep {H H' : Hp} {kvs : List (List L2.Key × V)} {F : Fd} (h : DicP H kvs F) (k : KeepT H H') : DicP H' kvs F := F2.imp (fun _ _ z => ⟨z.1, z.2.keep k⟩) h
theorem tups_keep {H H' : Hp} {ts : List Addr} {L : List Pt} (h : F2 (TupP H) ts L) (k : KeepT H H') : F2 (TupP H') ts L := F2.imp (fun _ _ z => z.keep k) h
theorem DicP.has {H : Hp} {kvs : List (List L2.Key × V)} {F : Fd} (h : DicP H kvs F) (q : Pt) : (valV kvs (keyP q)).isSome = hasK F q := by
  unfold DicP at h
  induction h with
  | nil => rfl
  | @cons a b as bs hd tl ih =>
    obtain ⟨e, _⟩ := hd
    by_cases z : b.1 = q
    · have e2 : a.1 = keyP q := by rw [e, z]
      rw [valV_pos e2]
      unfold hasK
      rw [List.any_cons, decide_eq_true z, Bool.true_or]
      rfl
    · have e2 : ¬ a.1 = keyP q := by rw [e]; exact fun w => z (key_inj.mp w)
      rw [valV_neg e2, ih]
      unfold hasK
      rw [List.any_cons, decide_eq_false z, Bool.false_or]
theorem DicP.get {H : Hp} {kvs : List (List L2.Key × V)} {F : Fd} (h : DicP H kvs F) (nd : (keysF F).Nodup) {q : Pt} {o : Option Pt} (m : (q, o) ∈ F) : ∃ v, valV kvs (keyP q) = some v ∧ ValP H v o := by
  unfold DicP at h
  induction h with
  | nil => cases m
  | @cons a b as bs hd tl ih =>
    obtain ⟨e, ev⟩ := hd
    have nd2 : (b.1 :: keysF bs).Nodup := nd
    rw [List.nodup_cons] at nd2
    rcases List.mem_cons.mp m with z | z
    · subst z
      exact ⟨a.2, valV_pos e, ev⟩
    · obtain ⟨v, e1, e2⟩ := ih nd2.2 z
      have ne : ¬ b.1 = q := fun w => nd2.1 (by rw [w]; exact List.mem_map_of_mem (f := Prod.fst) z)
      refine ⟨v, ?_, e2⟩
      rw [valV_neg (by rw [e]; exact fun w => ne (key_inj.mp w))]
      exact e1
theorem DicP.put {H : Hp} {kvs : List (List L2.Key × V)} {F : Fd} (h : DicP H kvs F) {q : Pt} {v : V} {o : Option Pt} (n : hasK F q = false) (hv : ValP H v o) : putK kvs (keyP q) v = kvs ++ [(keyP q, v)] ∧ DicP H (kvs ++ [(keyP q, v)]) (F ++ [(q, o)]) := by
  have e : (kvs.any fun kv => decide (kv.1 = keyP q)) = false := by
    rw [valV_any, h.has, n]
  refine ⟨?_, F2.append h (.cons ⟨rfl, hv⟩ .nil)⟩
  unfold putK
  rw [e, if_neg Bool.false_ne_true]
/-! ### promises -/
theorem F2.at {α β : Type} {R : α → β → Prop} {as : List α} {bs : List β} (h : F2 R as bs) {i : Nat} {b : β} (hb : bs[i]? = some b) : ∃ a, as[i]? = some a ∧ R a b := by
  induction h generalizing i with
  | nil => cases hb
  | cons hd tl ih =>
    cases i with
    | zero => cases hb; exact ⟨_, rfl, hd⟩
    | succ i => exact ih hb
theorem rd_dput {td ty tv : TE} {D : Ends} {σ : L2.St} {H : Hp} (q : tv σ H fun v H1 => td σ H1 fun x H2 => ty σ H2 fun y H3 => ∃ a H4, x = .ref a ∧ DPut H3 a y v H4 ∧ D.nx σ H4) : sDPut td ty tv D σ H := q
theorem rd_dget {td ty : TE} {σ : L2.St} {H : Hp} {Q : VK} (q : td σ H fun x H1 => ty σ H1 fun y H2 => ∃ a v, x = .ref a ∧ DGet H2 a y (some v) ∧ Q v H2) : tDGet td ty σ H Q := q
end Hf
namespace Hf
open PySem PySem.Spec PyProof.Rows L2
theorem big_size {n : Nat} (h : n ≤ 1000000) : n < sizeLine := by
  have := sizeLine_eq
  omega
/-! ### comprehensions of up to a million items -/
/-! ### a dict walked -/
/-! ### pixels in order -/
theorem DicP.keys {H : Hp} {kvs : List (List L2.Key × V)} {F : Fd} (h : DicP H kvs F) : kvs.map (·.1) = (keysF F).map keyP := by
  unfold DicP at h
  induction h with
  | nil => rfl
  | @cons a b as bs hd tl ih =>
    show a.1 :: as.map (·.1) = keyP b.1 :: (keysF bs).map keyP
    rw [ih, hd.1]
theorem rd_iKeys {td : TE} {σ : L2.St} {H : Hp} {R : It → Hp → Prop} (q : td σ H fun x H1 => ∃ d o, x = .ref d ∧ ((∃ kvs, H1 d = some (.frz o (.dK kvs)) ∧ R (Itk d o kvs) H1) ∨ ∃ kvs, H1 d = some (.frz o (.dT kvs)) ∧ R (Itkt d o kvs) H1)) : iKeys td σ H R := q
theorem range_map0 {α β : Type} (z : α) (f : α → β) : ∀ xs : List α, (List.range xs.length).map (fun i => f (xs.getD i z)) = xs.map f
  | [] => rfl
  | x :: xs => by
    have ih := range_map0 z f xs
    rw [List.length_cons, List.range_succ_eq_map, List.map_cons, List.map_map, List.map_cons, ← ih]
    rfl
end Hf
namespace Hf
open PySem PySem.Spec PyProof.Rows L2
/-! ### pixels as data -/
theorem tup_len (ts : List Str) : (tupleText ts).length ≤ piled ts + 3 := by
  cases ts with
  | nil => decide
  | cons t r =>
    have h1 := join_length_add (t :: r) (by simp)
    unfold tupleText
    rw [Str.length_append, Str.length_append]
    have : ∀ b : Bool, (Str.ofString (if b = true then ",)" else ")")).length ≤ 2 := by intro b; cases b <;> decide
    have := this ((t :: r).length == 1)
    have e1 : ("(" : Str).length = 1 := by decide
    omega
/-! ### a dict known by its keys -/
def DicM (kvs : List (List L2.Key × V)) (M : List Pt) : Prop := kvs.map (·.1) = M.map keyP
theorem DicM.has {kvs : List (List L2.Key × V)} {M : List Pt} (h : DicM kvs M) (q : Pt) : (valV kvs (keyP q)).isSome = decide (q ∈ M) := by
  rw [← valV_any, Bool.eq_iff_iff, List.any_eq_true, decide_eq_true_eq]
  unfold DicM at h
  constructor
  · rintro ⟨kv, hm, e⟩
    have e := of_decide_eq_true e
    have : kv.1 ∈ M.map keyP := by rw [← h]; exact List.mem_map_of_mem hm
    obtain ⟨q', hq', e2⟩ := List.mem_map.mp this
    rw [e] at e2
    rw [← key_inj.mp e2]
    exact hq'
  · intro hq
    have : keyP q ∈ kvs.map (·.1) := by rw [h]; exact List.mem_map_of_mem hq
    obtain ⟨kv, hm, e⟩ := List.mem_map.mp this
    exact ⟨kv, hm, decide_eq_true e⟩
theorem DicM.put {kvs : List (List L2.Key × V)} {M : List Pt} (h : DicM kvs M) (q : Pt) (v : V) : DicM (putK kvs (keyP q) v) (if q ∈ M then M else M ++ [q]) := by
  unfold putK
  rw [valV_any, h.has]
  unfold DicM at *
  by_cases e : q ∈ M
  · rw [decide_eq_true e, if_pos rfl, if_pos e, List.map_map, ← h]
    refine List.map_congr_left fun kv _ => ?_
    show (if kv.1 = keyP q then (kv.1, v) else kv).1 = kv.1
    by_cases z : kv.1 = keyP q
    · rw [if_pos z]
    · rw [if_neg z]
  · rw [decide_eq_false e, if_neg Bool.false_ne_true, if_neg e, List.map_append, List.map_append, h]
    rfl
theorem DicM.len {kvs : List (List L2.Key × V)} {M : List Pt} (h : DicM kvs M) : kvs.length = M.length := by
  have := congrArg List.length h
  rw [List.length_map, List.length_map] at this
  exact this
/-! ### the law's own search -/
structure OkM (R : Pic) (p : Pt) (M : List Pt) : Prop where
  nd : M.Nodup
  cn : ∀ q ∈ M, Conn R p q
def Closed (R : Pic) (p : Pt) (M : List Pt) (q : Pt) : Prop := ∀ r ∈ nbr q, colA R r = colA R p → r ∈ M
theorem OkM.add {R : Pic} {p a q : Pt} {M : List Pt} (h : OkM R p M) (ha : Conn R p a) (hq : q ∈ nbr a) (c : colA R q = colA R p) (n : q ∉ M) : OkM R p (M ++ [q]) := by
  refine ⟨?_, fun x hx => ?_⟩
  · rw [List.nodup_append]
    refine ⟨h.nd, by simp, ?_⟩
    intro x hx y hy
    rw [List.mem_singleton.mp hy]
    intro z
    exact n (z ▸ hx)
  · rcases List.mem_append.mp hx with hx | hx
    · exact h.cn x hx
    · rw [List.mem_singleton.mp hx]
      exact .step ha hq c
theorem OkM.len {w h : Nat} {R : Pic} {p : Pt} {M : List Pt} (G : Good w h R) (hp : (colA R p).isSome = true) (ok : OkM R p M) : M.length ≤ w * h := pts_le ok.nd fun q hq => col_in G (by rw [(ok.cn q hq).col]; exact hp)
theorem OkM.done {R : Pic} {p : Pt} {M : List Pt} (ok : OkM R p M) (pm : p ∈ M) (cl : ∀ q ∈ M, Closed R p M q) (q : Pt) : q ∈ M ↔ Conn R p q := by
  refine ⟨ok.cn q, fun c => ?_⟩
  induction c with
  | refl _ => exact pm
  | step h a c ih => exact cl _ ih _ a c
/-! ### all pixels, row by row -/
theorem Reg.nodup {R : Pic} {p : Pt} {L : List Pt} (g : Reg R p L) : L.Nodup := List.Pairwise.imp (fun {a b} h e => by
  subst e
  unfold ltP at h
  omega) g.pw
theorem Reg.len {w h : Nat} {R : Pic} {p : Pt} {L : List Pt} (G : Good w h R) (F : Fit w h) (hp : (colA R p).isSome = true) (g : Reg R p L) : L.length ≤ 40000 := by
  have h1 := pts_le (w := w) (h := h) g.nodup fun q hq => col_in G (by rw [((g.mem q).mp hq).col]; exact hp)
  have h2 := Nat.mul_le_mul F.w2 F.h2
  omega
end Hf
namespace Hf
open PySem PySem.Spec PyProof.Rows L2
/-! ### o.m(k = ..) -/
def tMeK (C : Addr) (m : Str) (n : Nat) (q : List V → List V) (sp : Sp) (E : XK) (ta : TE) (tk : TA) : TE := fun σ H Q => ta σ H fun x H1 => ∃ a dx fs, x = .ref a ∧ H1 a = some (.ins C dx fs) ∧ List.lookup m fs = none ∧ tk σ H1 (ClKK n (fun zs => x :: q zs) sp E Q)
theorem rd_meK {C : Addr} {m : Str} {n : Nat} {q : List V → List V} {sp : Sp} {E : XK} {ta : TE} {tk : TA} {σ : L2.St} {H : Hp} {Q : VK} (z : ta σ H fun x H1 => ∃ a dx fs, x = .ref a ∧ H1 a = some (.ins C dx fs) ∧ List.lookup m fs = none ∧ tk σ H1 (ClKK n (fun zs => x :: q zs) sp E Q)) : tMeK C m n q sp E ta tk σ H Q := z
theorem same_back {H H' : Hp} {p : Addr} (e : Same H H') (n : H' p = none) : H p = none := by
  cases z : H p with
  | none => rfl
  | some o =>
    rw [e _ _ z] at n
    cases n
/-! ### a dict from pixels to their regions -/
structure Know (R : Pic) (H : Hp) (kvs : List (List L2.Key × V)) (M : List Pt) : Prop where
  m : DicM kvs M
  nd : M.Nodup
  i : ∀ q ∈ M, (colA R q).isSome = true
  v : ∀ q v, valV kvs (keyP q) = some v → ∃ (m : Addr) (ts : List Addr) (L : List Pt), v = .ref m ∧ H m = some (.lst (ts.map V.ref)) ∧ F2 (TupP H) ts L ∧ Reg R q L
theorem Know.nil {R : Pic} {H : Hp} : Know R H [] [] := ⟨rfl, List.nodup_nil, fun q h => (by cases h), fun q v h => (by cases h)⟩
theorem Know.len {R : Pic} {H : Hp} {kvs : List (List L2.Key × V)} {M : List Pt} {w h : Nat} (K : Know R H kvs M) (G : Good w h R) : kvs.length ≤ w * h := by
  rw [K.m.len]
  exact pts_le K.nd fun q hq => col_in G (K.i q hq)
theorem Know.keep {R : Pic} {H H' : Hp} {kvs : List (List L2.Key × V)} {M : List Pt} (K : Know R H kvs M) (k : KeepT H H') (l : ∀ m xs, H m = some (.lst xs) → H' m = some (.lst xs)) : Know R H' kvs M := ⟨K.m, K.nd, K.i, fun q v h => by
  obtain ⟨m, ts, L, e, hm, T, g⟩ := K.v q v h
  exact ⟨m, ts, L, e, l _ _ hm, tups_keep T k, g⟩⟩
theorem Know.same {R : Pic} {H H' : Hp} {kvs : List (List L2.Key × V)} {M : List Pt} (K : Know R H kvs M) (s : Same H H') : Know R H' kvs M := K.keep (.same s) fun m xs h => s _ _ h
theorem Know.put {R : Pic} {H : Hp} {kvs : List (List L2.Key × V)} {M : List Pt} (K : Know R H kvs M) {q : Pt} {m : Addr} {ts : List Addr} {L : List Pt} (c : (colA R q).isSome = true) (hm : H m = some (.lst (ts.map V.ref))) (T : F2 (TupP H) ts L) (g : Reg R q L) : Know R H (putK kvs (keyP q) (.ref m)) (if q ∈ M then M else M ++ [q]) := by
  refine ⟨K.m.put q _, ?_, fun x hx => ?_, fun x v hv => ?_⟩
  · by_cases e : q ∈ M
    · rw [if_pos e]; exact K.nd
    · rw [if_neg e, List.nodup_append]
      refine ⟨K.nd, by simp, ?_⟩
      intro x hx y hy
      rw [List.mem_singleton.mp hy]
      intro z
      exact e (z ▸ hx)
  · by_cases e : q ∈ M
    · rw [if_pos e] at hx; exact K.i x hx
    · rw [if_neg e] at hx
      rcases List.mem_append.mp hx with hx | hx
      · exact K.i x hx
      · rw [List.mem_singleton.mp hx]; exact c
  · by_cases e : x = q
    · subst e
      rw [valV_put, if_pos rfl] at hv
      exact ⟨m, ts, L, (Option.some.inj hv).symm, hm, T, g⟩
    · rw [valV_put, if_neg (fun z => e (key_inj.mp z))] at hv
      exact K.v x v hv
end Hf
namespace Hf
open PySem PySem.Spec PyProof.Rows L2
/-! ### e[::-1], of anything: the slice is made, then getItem gives what r says -/
/-! ### of a tuple -/
def rRevT (K : PySem.W.Frag) : V → Hp → VK → Prop := fun x H Q => ∃ a xs, x = .ref a ∧ SqT K H a xs ∧ ∀ p, H p = none → Q (.ref p) (upd H p (.tup xs.reverse))
theorem rd_revT {K : PySem.W.Frag} {te : TE} {σ : L2.St} {H : Hp} {Q : VK} (q : te σ H fun x H1 => ∃ a xs, x = .ref a ∧ SqT K H1 a xs ∧ ∀ p, H1 p = none → Q (.ref p) (upd H1 p (.tup xs.reverse))) : tUn (rRevT K) te σ H Q := q
theorem rd_revL {K : PySem.W.Frag} {te : TE} {σ : L2.St} {H : Hp} {Q : VK} (q : te σ H fun x H1 => ∃ a xs, x = .ref a ∧ SqL K H1 a xs ∧ ∀ p, H1 p = none → Q (.ref p) (upd H1 p (.lst xs.reverse))) : tRevL K te σ H Q := q
/-! ### of a text -/
def revS (z : Str) : Str := ⟨z.cps.toList.reverse.toArray⟩
def rRevS : V → Hp → VK → Prop := fun x H Q => ∃ z : Str, x = .str z ∧ z.length ≤ sizeLine ∧ Q (.str (revS z)) H
theorem rd_revS {te : TE} {σ : L2.St} {H : Hp} {Q : VK} (q : te σ H fun x H1 => ∃ z : Str, x = .str z ∧ z.length ≤ sizeLine ∧ Q (.str (revS z)) H1) : tUn rRevS te σ H Q := q
end Hf
namespace Hf
open PySem PySem.Spec PyProof.Rows L2
/-! ### facts go along with the heap -/
theorem same_at {H H' : Hp} {a : Addr} {o : HO} (s : Same H H') (h : H a = some o) : H' a = some o := s _ _ h
theorem same_tr {H H1 H2 : Hp} (s : Same H1 H2) (t : Same H H1) : Same H H2 := t.trans s
theorem picg_at {C p : Addr} {H H' : Hp} {w h : Nat} {R : Pic} (s : Same H H') (g : PicG C H p w h R) : PicG C H' p w h R := g.same s
theorem tups_at {H H' : Hp} {ts : List Addr} {L : List Pt} (s : Same H H') (g : F2 (TupP H) ts L) : F2 (TupP H') ts L := tups_keep g (.same s)
theorem pen_at {H H' : Hp} {b c : Addr} {k : Nat} (s : Same H H') (g : Pen H b c k) : Pen H' b c k := g.same s
/-! ### flips (no program in sight) -/
/-! ### promises -/
/-! ### a pixel in a tuple of pixels -/
end Hf
namespace Hf
open PySem PySem.Spec PyProof.Rows L2
/-- p.rows -/
theorem use_rows {K : PySem.W.Frag} {mg : Str → Option Value} {C p : Addr} {H : Hp} {w h : Nat} {R : Pic} {QQ : V → Prop} {dn : Str} (C0 : PcC K mg C dn) (g : PicG C H p w h R) (k : ∀ t, H t = some (.tup (R.map rowV)) → QQ (.ref t)) : ∃ p' C' dx fs v, V.ref p = .ref p' ∧ H p' = some (.ins C' dx fs) ∧ Cls K C' ∧ NoAttr K C' "rows" ∧ List.lookup ("rows" : Str) fs = some v ∧ QQ v := by
  obtain ⟨dx, t, e, ht⟩ := id g.at_
  exact ⟨p, C, dx, _, _, rfl, e, C0.cl, C0.n1, pc_rows, k t ht⟩
end Hf
namespace Hf
open PySem PySem.Spec PyProof.Rows L2
theorem PicG.pen {C p b c : Addr} {H H' : Hp} {w h k : Nat} {R : Pic} (g : PicG C H p w h R) (P : Pen H b c k) (e : Keep b H H') : PicG C H' p w h R := ⟨g.at_.pen P e, g.g⟩
end Hf
namespace Hf
open PySem PySem.Spec PyProof.Rows L2
/-! ### data with empty dicts, without lists -/
mutual
inductive Dx (H : Hp) : V → PyData → Prop
  | non : Dx H .non .none
  | bl (b : Bool) : Dx H (.bl b) (.bool b)
  | int (i : Int) : Dx H (.int i) (.int i)
  | str (x : Str) : Dx H (.str x) (.str x)
  | tup {a : Addr} {xs : List V} {ds : List PyData} : H a = some (.tup xs) → DxAll H xs ds → Dx H (.ref a) (.tuple ds)
  | dic {a : Addr} : H a = some (.dK []) → Dx H (.ref a) (.dict [])
inductive DxAll (H : Hp) : List V → List PyData → Prop
  | nil : DxAll H [] []
  | cons {v : V} {vs : List V} {d : PyData} {ds : List PyData} : Dx H v d → DxAll H vs ds → DxAll H (v :: vs) (d :: ds)
end
/-! ### odd values: what a law hands where a number is wanted -/
/-- a value that can be shown: small data, or an empty dict -/
inductive Odd (H : Hp) : V → PyData → Prop
  | non : Odd H .non .none
  | bl (b : Bool) : Odd H (.bl b) (.bool b)
  | int (i : Int) : i.natAbs.log2 < 1000 → Odd H (.int i) (.int i)
  | str (x : Str) : PyData.strOk x = true → x.length ≤ 10 → Odd H (.str x) (.str x)
  | lst0 {a : Addr} : H a = some (.lst []) → Odd H (.ref a) (.list [])
  | lstI {a : Addr} {i : Int} : H a = some (.lst [.int i]) → i.natAbs ≤ 9 → Odd H (.ref a) (.list [.int i])
  | tupI {a : Addr} {i : Int} : H a = some (.tup [.int i]) → i.natAbs ≤ 9 → Odd H (.ref a) (.tuple [.int i])
  | dic {a : Addr} : H a = some (.dK []) → Odd H (.ref a) (.dict [])
theorem Odd.imp {H H' : Hp} {v : V} {d : PyData} (h : Odd H v d) (hk : ∀ a o, H a = some o → v = .ref a → (∀ ps, o ≠ .tbl ps) → H' a = some o) : Odd H' v d := by
  cases h with
  | non => exact .non
  | bl b => exact .bl b
  | int i z => exact .int i z
  | str x a b => exact .str x a b
  | lst0 z => exact .lst0 (hk _ _ z rfl (fun ps z => by cases z))
  | lstI z y => exact .lstI (hk _ _ z rfl (fun ps z => by cases z)) y
  | tupI z y => exact .tupI (hk _ _ z rfl (fun ps z => by cases z)) y
  | dic z => exact .dic (hk _ _ z rfl (fun ps z => by cases z))
theorem Odd.same {H H' : Hp} {v : V} {d : PyData} (h : Odd H v d) (e : Same H H') : Odd H' v d := h.imp fun a o z _ _ => e _ _ z
theorem Odd.extN {H H' : Hp} {v : V} {d : PyData} (h : Odd H v d) (e : LamX.ExtN H H') : Odd H' v d := h.imp fun a o z _ n => e _ _ z n
theorem Odd.keep {H H' : Hp} {v : V} {d : PyData} {b : Addr} (h : Odd H v d) (e : Keep b H H') (n : v ≠ .ref b) : Odd H' v d := h.imp fun a o z ev _ => e _ _ z fun q => n (by rw [ev, q])
theorem log_len {i : Int} (h : i.natAbs.log2 < 1000) : (toString i).length ≤ 1001 := by
  have h1 : i.natAbs < 2 ^ 1000 := by
    by_cases z : i.natAbs = 0
    · rw [z]; exact Nat.two_pow_pos _
    · exact (Nat.log2_lt z).mp h
  have h2 : i.natAbs < 10 ^ 1000 := Nat.lt_of_lt_of_le h1 (Nat.pow_le_pow_left (by decide) _)
  exact PySem.int_text_length_le10 (k := 1000) (by decide) h2
end Hf
namespace Hf
open PySem PySem.Spec PyProof.Rows L2
/-! ### several except clauses, each with or without a name for the error; no error leaves them -/
/-- the error at a has come down at X: its ground, and the state ahead of it -/
structure Down (X : Cx) (pins : List (Addr × Obj)) (a : Addr) (cls : Value) (d : Option Addr) (σ : L2.St) (H : Hp) (s : Shared) : Prop where
  ex : ∃ (B : Heap) (t : Shared), Inv X pins σ H t ∧ (∀ b o, t.heap.get? b = some o → b ∉ frs X.stack → B.get? b = some o) ∧ t.heap.UpToSlots s.heap ∧ HandSPX.FlyingZ B (X.env :: X.outer) a (Zc cls d) s.heap ∧ s.os = t.os
  new : H a = none
  gens : AllBare s.gens
section
variable {X : Cx} {pins : List (Addr × Obj)} {a : Addr} {cls : Value} {d : Option Addr} {σ : L2.St} {H : Hp} {s : Shared}
theorem Down.inv (x : Down X pins a cls d σ H s) : Inv X pins σ H s := let ⟨_, _, I, nb, up, fly, os⟩ := x.ex; I.landed nb fly.1 up os x.gens
/-- it stays there while its flight is set to none once more -/
theorem Down.still (x : Down X pins a cls d σ H s) {A : Around} {Q : Unit → Shared → Prop} {E : Value → Shared → Prop} (k : ∀ h', Down X pins a cls d σ H { s with heap := h' } → Q () { s with heap := h' }) : wpAny (model X.prog X.w) A (setFlight (.ref a) none) Q E s := by
  obtain ⟨B, t, I, nb, up, fly, os⟩ := x.ex
  exact HandSPX.lands_againZ fly fun h' fly' up' => k h' ⟨⟨B, t, I, nb, up.trans up', fly', os⟩, x.new, x.gens⟩
/-- the clause's suite may run -/
theorem Down.room (x : Down X pins a cls d σ H s) (hf : X.env.frame = some X.env.locals) : ∃ oe, s.heap.get? a = some oe ∧ Zc cls d oe ∧ (∃ vs, oe.data = .fields vs) ∧ Inv (X.suite a ((a, oe) :: (X.pn ++ pins))) [] σ H s := by
  obtain ⟨B, t, I, nb, up, fly, os⟩ := x.ex
  obtain ⟨oe, vs, at_, z, fields⟩ := fly.there
  have far : ∀ e ∈ X.env :: X.outer, e.frame ≠ some a := fun e he q => by
    obtain ⟨_, o2, at2, no⟩ := fly.2.2.1.mem (List.mem_filterMap.mpr ⟨e, he, q⟩)
    rw [at_] at at2
    cases at2
    exact no _ fields
  refine ⟨oe, at_, z, ⟨vs, fields⟩, x.inv.suite at_ fields x.new (fun q => far X.env List.mem_cons_self (by rw [hf, q])) fun q => ?_⟩
  obtain ⟨e, he, q⟩ := List.mem_filterMap.mp q
  exact far e (List.mem_cons_of_mem _ he) q
/-- what the name of the clause's class is, there -/
theorem Down.named (x : Down X pins a cls d σ H s) (hf : X.env.frame = some X.env.locals) {y : Str} {c : Value} {p : Pos} (n : Names X y c) {Q : Value → Shared → Prop} {E : Value → Shared → Prop} (k : Q c s) : wpAny (model X.prog X.w) (X.A.mark (some (.ref a))) (eval (.Name y p) X.env) Q E s := by
  obtain ⟨oe, _, _, _, S⟩ := x.room hf
  rcases n with ⟨g, nd, m | ⟨m, v, nn⟩⟩
  · exact ld_glob (X := X.suite a ((a, oe) :: (X.pn ++ pins))) S g m k nd
  · exact ld_blt (X := X.suite a ((a, oe) :: (X.pn ++ pins))) S g m v k nn nd
theorem Down.looks (x : Down X pins a cls d σ H s) (hf : X.env.frame = some X.env.locals) : PySem.W.Looks (model X.prog X.w) s.heap (typeOf (.ref a)) cls := by
  obtain ⟨oe, at_, z, _, _⟩ := x.room hf
  intro A Q E s' k q
  refine wpAny_typeOf_ref (k _ _ at_) ?_
  rw [z.1]
  exact q
end
abbrev Cl1 := Value × Option Nat × (Addr → Value → Option Addr → TS)
/-- behind a clause its name is gone -/
def offE (D : Ends) (i : Nat) : Ends := ⟨fun σ H => D.nx (σ.set i none) H, D.rt, fun σ H => D.bk (σ.set i none) H, fun σ H => D.ct (σ.set i none) H⟩
def goCl (D : Ends) : Option Nat → (Addr → Value → Option Addr → TS) → Addr → Value → Option Addr → L2.St → Hp → Prop
  | none, ts, a, cls, d, σ, H => ts a cls d D σ H
  | some i, ts, a, cls, d, σ, H => ts a cls d (offE D i) (σ.set i (some (.ref a))) H
def wMix (K : PySem.W.Frag) (D : Ends) : List Cl1 → WX
  | [], _, _, _, _ => False
  | (c, o, ts) :: r, cls, d, σ, H => (PySem.W.exmOne K cls c = some true ∧ ∀ a, H a = none → goCl D o ts a cls d σ H) ∨ (PySem.W.exmOne K cls c = some false ∧ wMix K D r cls d σ H)
/-- a suite under its clause -/
def SuiteOk (X : Cx) (body : List Stmt) (ts : Addr → Value → Option Addr → TS) : Prop := ∀ (a : Addr) (oe : Obj) (cls : Value) (d : Option Addr) (pn : List (Addr × Obj)), Zc cls d oe → (∃ vs, oe.data = .fields vs) → PSs (X.suite a ((a, oe) :: pn)) body (ts a cls d)
inductive HdsMix (X : Cx) : List ExceptHandler → List Cl1 → Prop
  | nil : HdsMix X [] []
  | plain {y : Str} {c : Value} {ts : Addr → Value → Option Addr → TS} {b : Stmt} {bs : List Stmt} {p q : Pos} {hds : List ExceptHandler} {l : List Cl1} (hc : Names X y c) (hsu : SuiteOk X (b :: bs) ts) (r : HdsMix X hds l) : HdsMix X (.ExceptHandler (some (.Name y p)) none (b :: bs) q :: hds) ((c, none, ts) :: l)
  | named {y n : Str} {c : Value} {i : Nat} {ts : Addr → Value → Option Addr → TS} {b : Stmt} {bs : List Stmt} {p q : Pos} {hds : List ExceptHandler} {l : List Cl1} (hN : X.N.Nodup) (hi : X.N[i]? = some n) (hl : X.env.kindOf n = some .local) (hc : Names X y c) (hsu : SuiteOk X (b :: bs) ts) (r : HdsMix X hds l) : HdsMix X (.ExceptHandler (some (.Name y p)) (some n) (b :: bs) q :: hds) ((c, some i, ts) :: l)
section
variable {X : Cx} {pins : List (Addr × Obj)} {a : Addr} {cls : Value} {d : Option Addr} {σ : L2.St} {H : Hp} {s : Shared} {D : Ends}
/-- the clauses, one after the other -/
theorem HdsMix.run (hf : X.env.frame = some X.env.locals) {hds : List ExceptHandler} {l : List Cl1} (hk : HdsMix X hds l) : Down X pins a cls d σ H s → wMix X.K D l cls d σ H → wpAny (model X.prog X.w) X.A (handleBy (.ref a) X.env hds) (SP X pins D) X.xe s := by
  induction hk with
  | nil => exact fun _ w => w.elim
  | plain hc hsu r ih =>
    intro x w
    refine wpAny_handleBy_cons (codeAny_handlers_test (x.named hf hc ?_)) (fun q => nomatch q)
    rcases w with ⟨m, go⟩ | ⟨m, w⟩
    · refine (PySem.W.exm_one (M := model X.prog X.w) x.inv.kIn (x.looks hf) m).here (codeAny_handlers_suite (x.still fun h' x' => ?_))
      obtain ⟨oe, _, z, fl, S⟩ := x'.room hf
      refine wpAny_mono ((hsu a oe cls d _ z fl).run [] _ σ H D S (go a x'.new)) (fun f s2 e => ?_) fun _ _ no => no.elim
      have ok := x'.inv.ok
      match f, e with
      | .next, ⟨_, _, S2, e⟩ => exact ⟨_, _, S2.unsuite ok, e⟩
      | .brk, ⟨_, _, S2, e⟩ => exact ⟨_, _, S2.unsuite ok, e⟩
      | .cont, ⟨_, _, S2, e⟩ => exact ⟨_, _, S2.unsuite ok, e⟩
      | .ret _, ⟨_, _, _, S2, rv, e⟩ => exact ⟨_, _, _, S2.unsuite ok, rv, e⟩
    · exact (PySem.W.exm_one (M := model X.prog X.w) x.inv.kIn (x.looks hf) m).here (ih x w)
  | @named y n c i ts b bs p q hds l hN hi hl hc hsu r ih =>
    intro x w
    refine wpAny_handleBy_cons (codeAny_handlers_test (x.named hf hc ?_)) (fun q => nomatch q)
    rcases w with ⟨m, go⟩ | ⟨m, w⟩
    · refine (PySem.W.exm_one (M := model X.prog X.w) x.inv.kIn (x.looks hf) m).here (codeAny_handlers_suite_as (x.still fun h' x' => ?_))
      obtain ⟨oe, _, z, fl, S⟩ := x'.room hf
      refine store_ok (X := X.suite a ((a, oe) :: (X.pn ++ pins))) (v := .ref a) S hN hi (.inl hl) rfl (fun s1 S1 => ?_) (.inr hl)
      refine wpAny_mono ((hsu a oe cls d _ z fl).run [] s1 _ H (offE D i) S1 (go a x'.new)) (fun f s2 e => ?_) fun _ _ no => no.elim
      have ok := x'.inv.ok
      match f, e with
      | .next, ⟨_, _, S2, e⟩ => exact gone_ok (S2.unsuite ok) hN hi hl fun s3 J => ⟨_, _, J, e⟩
      | .brk, ⟨_, _, S2, e⟩ => exact gone_ok (S2.unsuite ok) hN hi hl fun s3 J => ⟨_, _, J, e⟩
      | .cont, ⟨_, _, S2, e⟩ => exact gone_ok (S2.unsuite ok) hN hi hl fun s3 J => ⟨_, _, J, e⟩
      | .ret _, ⟨_, _, _, S2, rv, e⟩ => exact gone_ok (S2.unsuite ok) hN hi hl fun s3 J => ⟨_, _, _, J, rv, e⟩
    · exact (PySem.W.exm_one (M := model X.prog X.w) x.inv.kIn (x.looks hf) m).here (ih x w)
end
end Hf
namespace Hf
open PySem PySem.Spec PyProof.Rows L2
/-! ### an error that is kept behind its except suite -/
section
variable {X : Cx} {pins : List (Addr × Obj)} {a : Addr} {cls : Value} {d : Option Addr} {σ : L2.St} {H : Hp} {s : Shared} {D : Ends}
/-- what stands behind the suite while the error's record is still looked after -/
abbrev Cx.kept (X : Cx) (pn : List (Addr × Obj)) : Cx := X.tr pn X.xe
end
end Hf
namespace Hf
open PySem PySem.Spec PyProof.Rows L2
/-! ### a kept error is asked -/
end Hf
/-! ### bool(x) by an own __bool__ -/
namespace PySem.W
open PySem PySem.Spec PySem.Calls PyProof.Rows
end PySem.W
namespace Hf
open PySem PySem.Spec PyProof.Rows L2
end Hf
namespace Hf
open PySem PySem.Spec PyProof.Rows L2
/-! ### canvases -/
def cvF (w h : Nat) (l : Addr) : List (Str × V) := [("width", .int w), ("height", .int h), ("lines", .ref l)]
theorem f_wl : ¬ ("width" : Str) = "lines" := by decide +kernel
theorem f_hl : ¬ ("height" : Str) = "lines" := by decide +kernel
theorem cv_width {w h : Nat} {l : Addr} : List.lookup ("width" : Str) (cvF w h l) = some (.int w) := lk_hit
theorem cv_height {w h : Nat} {l : Addr} : List.lookup ("height" : Str) (cvF w h l) = some (.int h) := (lk_miss f_wh).trans lk_hit
theorem cv_lines {w h : Nat} {l : Addr} : List.lookup ("lines" : Str) (cvF w h l) = some (.ref l) := (lk_miss f_wl).trans ((lk_miss f_hl).trans lk_hit)
theorem cv_no {w h : Nat} {l : Addr} {m : Str} (h1 : ¬ ("width" : Str) = m) (h2 : ¬ ("height" : Str) = m) (h3 : ¬ ("lines" : Str) = m) : List.lookup m (cvF w h l) = none := (lk_miss h1).trans ((lk_miss h2).trans ((lk_miss h3).trans lk_nil))
theorem cv_make {w h : Nat} {l : Addr} : putF "lines" (.ref l) (putF "height" (.int h) (putF "width" (.int w) [])) = cvF w h l := by
  rw [pf_nil, pf_miss f_wh, pf_nil, pf_miss f_wl, pf_miss f_hl, pf_nil]
  rfl
theorem cv_put {w h : Nat} {l m : Addr} : putF "lines" (.ref m) (cvF w h l) = cvF w h m := by
  unfold cvF
  rw [pf_miss f_wl, pf_miss f_hl]
  rfl
structure CvG (C : Addr) (H : Hp) (p : Addr) (w h : Nat) (L : Pic) : Prop where
  at_ : ∃ dx l, H p = some (.ins C dx (cvF w h l)) ∧ H l = some (.lst (L.map rowV))
  g : Good w h L
section
variable {C p b c : Addr} {H H' : Hp} {w h k : Nat} {L : Pic}
theorem CvG.same (x : CvG C H p w h L) (e : Same H H') : CvG C H' p w h L := let ⟨dx, l, a, d⟩ := x.at_; ⟨⟨dx, l, e _ _ a, e _ _ d⟩, x.g⟩
theorem CvG.extN (x : CvG C H p w h L) (e : LamX.ExtN H H') : CvG C H' p w h L := let ⟨dx, l, a, d⟩ := x.at_; ⟨⟨dx, l, e _ _ a (fun ps z => by cases z), e _ _ d (fun ps z => by cases z)⟩, x.g⟩
theorem rows_ne {l : Addr} {n r : Int} (h1 : H b = some (.lst [.ref c, .int n, .int r])) (h2 : H l = some (.lst (L.map rowV))) : l ≠ b := by
  intro z
  rw [z, h1] at h2
  cases L <;> cases h2
theorem CvG.pen (x : CvG C H p w h L) (P : Pen H b c k) (e : Keep b H H') : CvG C H' p w h L := by
  obtain ⟨dx, l, a, d⟩ := x.at_
  obtain ⟨cs, n, r, h1, _⟩ := P
  exact ⟨⟨dx, l, e _ _ a (ne_of a h1 (by intro z; cases z)), e _ _ d (rows_ne h1 d)⟩, x.g⟩
/-- another list is changed, or made -/
theorem CvG.keepL {xs : List V} (x : CvG C H p w h L) (hb : H b = some (.lst xs)) (n : ∀ l, H l = some (.lst (L.map rowV)) → l ≠ b) (e : Keep b H H') : CvG C H' p w h L := by
  obtain ⟨dx, l, a, d⟩ := x.at_
  exact ⟨⟨dx, l, e _ _ a (ne_of a hb (by intro z; cases z)), e _ _ d (n l d)⟩, x.g⟩
/-- lists, tuples and what is not the canvas stay while the canvas changes -/
theorem CvG.other {a : Addr} {o : HO} (x : CvG C H p w h L) (e : Keep p H H') (ha : H a = some o) (n : ∀ C dx fs, o ≠ .ins C dx fs) : H' a = some o := by
  obtain ⟨dx, l, hp, _⟩ := x.at_
  exact e _ _ ha (ne_of ha hp (n _ _ _))
theorem CvG.penC (x : CvG C H p w h L) (P : Pen H b c k) (e : Keep p H H') : Pen H' b c k := by
  obtain ⟨cs, n, r, h1, h2, q⟩ := P
  exact ⟨cs, n, r, x.other e h1 (fun _ _ _ z => by cases z), x.other e h2 (fun _ _ _ z => by cases z), q⟩
end
/-- what the written part says of Canvas, at C -/
structure CvC (K : PySem.W.Frag) (mg : Str → Option Value) (C : Addr) : Prop where
  cl : Cls K C
  n1 : NoAttr K C "width"
  n2 : NoAttr K C "height"
  n3 : NoAttr K C "lines"
  g : mg "Canvas" = some (.ref C)
/-! ### promises -/
def spCvI (C : Addr) : Sp := fun vs H Q _ => ∃ (p dx : Addr) (w h : Nat), vs = [.ref p, .int w, .int h] ∧ H p = some (.ins C dx []) ∧ Fit w h ∧ ∀ H', CvG C H' p w h (plainR w h 0) → Keep p H H' → Q .non H'
theorem use_cv {C : Addr} {H : Hp} {w h : Nat} {Q : VK} {E : XK} (hF : Fit w h) (k : ∀ (p : Addr) (H' : Hp), H p = none → CvG C H' p w h (plainR w h 0) → Same H H' → Q (.ref p) H') : MakeK C (spCvI C) E Q [.int w, .int h] H := by
  intro x dx hx hdx hne
  have sm : Same H (upd (upd H dx (.own x)) x (.ins C dx [])) := fun b u e => by
    rw [upd_ne (ne_of_none e hx), upd_ne (ne_of_none e hdx)]
    exact e
  exact ⟨x, dx, w, h, rfl, upd_same, hF, fun H' g kp => ⟨rfl, k x H' hx g fun b u e => kp b u (sm b u e) (ne_of_none e hx)⟩⟩
def spShown (C CP : Addr) : Sp := fun vs H Q _ => ∃ (p : Addr) (L : Pic) (w h : Nat), vs = [.ref p] ∧ CvG C H p w h L ∧ Fit w h ∧ ∀ (q : Addr) (H' : Hp), H q = none → PicG CP H' q w h L → Same H H' → Q (.ref q) H'
theorem rd_prop {C : Addr} {sp : Sp} {dvs : List V} {E : XK} {ta : TE} {σ : L2.St} {H : Hp} {Q : VK} (q : ta σ H fun x H1 => ∃ a dx fs, x = .ref a ∧ H1 a = some (.ins C dx fs) ∧ sp (.ref a :: dvs) H1 Q E) : tProp C sp dvs E ta σ H Q := q
theorem cv_m {C p : Addr} {H : Hp} {w h : Nat} {L : Pic} {m : Str} {P : Prop} (x : CvG C H p w h L) (h1 : ¬ ("width" : Str) = m) (h2 : ¬ ("height" : Str) = m) (h3 : ¬ ("lines" : Str) = m) (k : P) : ∃ a dx fs, V.ref p = .ref a ∧ H a = some (.ins C dx fs) ∧ List.lookup m fs = none ∧ P := by
  obtain ⟨dx, l, e, _⟩ := id x.at_
  exact ⟨p, dx, _, rfl, e, cv_no h1 h2 h3, k⟩
/-- no colour -/
def ColBad (K : PySem.W.Frag) (H : Hp) (v : V) : Prop := NotW K H v ∨ ∃ i : Int, v = .int i ∧ ¬ (0 ≤ i ∧ i ≤ 9)
theorem ColBad.same {K : PySem.W.Frag} {H H' : Hp} {v : V} (h : ColBad K H v) (e : Same H H') : ColBad K H' v := h.imp (fun x => x.same e) id
theorem ColBad.extN {K : PySem.W.Frag} {H H' : Hp} {v : V} (h : ColBad K H v) (e : LamX.ExtN H H') : ColBad K H' v := h.imp (fun x => x.extN e) id
def spNColX (K : PySem.W.Frag) (CB : Addr) : Sp := fun vs H Q E => ∃ v : V, vs = [v] ∧ ((ColBad K H v ∧ LetS E CB H [("value", v)]) ∨ ∃ i : Int, v = .int i ∧ 0 ≤ i ∧ i ≤ 9 ∧ Q .non H)
/-! ### a box, filled -/
theorem getD_mem {L : Pic} {j : Nat} (h : j < L.length) : L.getD j [] ∈ L := by
  rw [List.getD_eq_getElem?_getD, List.getElem?_eq_getElem h]
  exact List.getElem_mem h
/-! ### what is shown of an odd value -/
theorem odd_shown {K : PySem.W.Frag} {H : Hp} {v : V} {d : PyData} (o : Odd H v d) : d.showable = true ∧ d.depth ≤ 1 ∧ d.shown.length ≤ 1100 ∧ ((Dp K H v d ∧ d.hasDict = false) ∨ Dx H v d) := by
  have sm : ∀ i : Int, i.natAbs ≤ 9 → (PyData.int i).shown.length ≤ 2 ∧ i.natAbs.log2 < 1920 := fun i hi => by
    refine ⟨?_, ?_⟩
    · show (Str.ofString (toString i)).length ≤ 2
      rw [PySem.ofString_length]
      exact PySem.int_text_length_le10 (k := 1) (by decide) (by omega)
    · exact sm_log (i := i) ⟨by omega, by omega⟩
  cases o with
  | non => exact ⟨by decide +kernel, by decide +kernel, by decide +kernel, .inl ⟨.non, by decide +kernel⟩⟩
  | bl b => exact ⟨by cases b <;> decide +kernel, by cases b <;> decide +kernel, by cases b <;> decide +kernel, .inl ⟨.bl b, by cases b <;> decide +kernel⟩⟩
  | int i hi =>
    refine ⟨by simp only [PyData.showable]; exact decide_eq_true (by omega), by simp [PyData.depth], ?_, .inl ⟨.int i, by simp [PyData.hasDict]⟩⟩
    show (Str.ofString (toString i)).length ≤ 1100
    rw [PySem.ofString_length]
    have := log_len hi
    omega
  | str x hx hl =>
    refine ⟨?_, by simp [PyData.depth], ?_, .inl ⟨.str x, by simp [PyData.hasDict]⟩⟩
    · simp [PyData.showable]
    · show (reprText x).length ≤ 1100
      have := PySem.StrLaws.reprText_len x (fun c hc => by
        unfold PyData.strOk at hx
        rw [Array.all_eq_true'] at hx
        have := of_decide_eq_true (hx c (Array.mem_toList_iff.mp hc))
        have : (16 : Nat) ^ 8 = 4294967296 := by decide
        omega)
      omega
  | lst0 z => exact ⟨by decide +kernel, by decide +kernel, by decide +kernel, .inl ⟨.lst (SqL.of z) .nil, by decide +kernel⟩⟩
  | @lstI a i z hi =>
    obtain ⟨s1, s2⟩ := sm i hi
    refine ⟨by simp only [PyData.showable, PyData.showableAll, Bool.and_true]; exact decide_eq_true s2, by simp [PyData.depth, PyData.depthAll], ?_, .inl ⟨.lst (SqL.of z) (.cons (.int i) .nil), by simp [PyData.hasDict, PyData.hasDictAll]⟩⟩
    have e : (PyData.list [.int i]).shown = listText [(PyData.int i).shown] := by simp only [PyData.shown, PyData.shownAll]
    rw [e]
    have h := textFrom_length_pos [] 1 (("[" : Str) ++ (if (0 : Nat) > 0 then ", " else "" : String) ++ (PyData.int i).shown) (Nat.succ_pos 0)
    have hX : (listText [(PyData.int i).shown]).length = (textFrom 1 (("[" : Str) ++ (if (0 : Nat) > 0 then ", " else "" : String) ++ (PyData.int i).shown) []).length + 1 := by
      show (textFrom 0 "[" [(PyData.int i).shown] ++ "]").length = _
      rw [Str.length_append]
      rfl
    have e1 : ("[" : Str).length = 1 := by decide
    have e2 : (Str.ofString (if (0 : Nat) > 0 then ", " else "" : String)).length = 0 := by decide
    rw [hX, h, piled_nil, Str.length_append, Str.length_append]
    omega
  | @tupI a i z hi =>
    obtain ⟨s1, s2⟩ := sm i hi
    refine ⟨by simp only [PyData.showable, PyData.showableAll, Bool.and_true]; exact decide_eq_true s2, by simp [PyData.depth, PyData.depthAll], ?_, .inl ⟨.tup (SqT.of z) (.cons (.int i) .nil), by simp [PyData.hasDict, PyData.hasDictAll]⟩⟩
    have e : (PyData.tuple [.int i]).shown = tupleText [(PyData.int i).shown] := by simp only [PyData.shown, PyData.shownAll]
    rw [e]
    have := tup_len [(PyData.int i).shown]
    rw [piled_cons, piled_nil] at this
    omega
  | dic z => exact ⟨by decide +kernel, by decide +kernel, by decide +kernel, .inr (.dic z)⟩
end Hf
namespace Hf
open PySem PySem.Spec PyProof.Rows L2
/-! ### range(i, j), of great numbers where it is empty -/
/-- the walk over an empty long range -/
theorem turn_none {P : Program} {w : World} {K : PySem.W.Frag} {tg : Expr} (z : Addr) (lo : Int) : Turn P w K tg (Itr lo 0) [z] z (fun _ h => IsLongIter h z lo 0 1) := by
  refine ⟨List.mem_singleton.mpr rfl, fun i h at_ b hb => ?_, fun i h h' at_ k => k z (List.mem_singleton.mpr rfl) _ at_, ?_, ?_, fun A i s Q E at_ q => wpAny_pyIter_longiter at_ q⟩
  · rw [List.mem_singleton.mp hb]
    exact ⟨_, at_, fun v q => nomatch q⟩
  · intro X _ _ _ _ i _ _ _ _ _ _ _ _ hg
    exact absurd (show i < 0 from hg) (Nat.not_lt_zero i)
  · intro X e1 e2 e3 calm i pins s σ H E I fp at_ _
    subst e1 e2 e3
    obtain ⟨a0, a1, _, a3, a4, a5⟩ := fp z (List.mem_singleton.mpr rfl)
    exact wpAny_pyNext_long_end (I.ok.hd calm) at_ (Int.le_refl 0) fun h' but => ⟨rfl, I.turned (t' := s.toks) (fun b o hb e => but b o hb e) a0 a1 a3 a4 a5⟩
/-- a range whose ends are i and j, walked: small ends, or none between them -/
theorem range_any {X : Cx} {tg : Expr} {pins : List (Addr × Obj)} {σ : L2.St} {H : Hp} {s : Shared} {R : It → Hp → Prop} {E : Value → Shared → Prop} {i j : Int} {t u v : Tok} {tk : Nat} (I : Inv X pins σ H s) (hb : (-(2 ^ 62) ≤ i ∧ i < 2 ^ 62 ∧ -(2 ^ 62) ≤ j ∧ j < 2 ^ 62) ∨ j ≤ i)
    (q : R (Itr i (j - i).toNat) H) : wpAny (model X.prog X.w) X.A (pyIter (.ref s.heap.objs.size)) (PIE X pins σ tg R) E { s with heap := s.heap.push { cls := .type "range", data := .fields #[.int i t, .int j u, .int 1 v] }, toks := tk } := by
  rcases hb with ⟨b1, b2, b3, b4⟩ | le
  · exact range_it I b1 b2 b3 b4 q
  have n0 : (j - i).toNat = 0 := by omega
  have s0 : Builtin.Range.rangeSize i j 1 = 0 := by
    rw [rangeSize_one]
    split <;> omega
  have I1 : Inv X pins σ H { s with heap := s.heap.push { cls := .type "range", data := .fields #[.int i t, .int j u, .int 1 v] }, toks := tk } := I.kept fun b o e => Heap.get?_push_of_some _ e
  generalize hh : s.heap.push { cls := .type "range", data := .fields #[.int i t, .int j u, .int 1 v] } = hp at *
  have at0 : IsRange hp s.heap.objs.size i j 1 t u v := by
    rw [← hh]
    exact IsRange.new ..
  have up : ∀ (ob : Obj), Inv X pins σ H { s with heap := hp.push ob, toks := tk } := fun ob => I1.kept (t' := tk) fun b o e => Heap.get?_push_of_some _ e
  have fp : ∀ b ∈ [hp.objs.size], FpOk X pins H b := fun b hb => by
    rw [List.mem_singleton.mp hb]
    exact I1.fpOk (Nat.le_refl _) (I1.hok.fresh (Nat.le_refl _))
  cases sm : Builtin.Range.small i j 1 with
  | false =>
    refine wpAny_pyIter_longrange at0 sm ⟨hp.objs.size, [hp.objs.size], _, _, H, rfl, up _, turn_none hp.objs.size i, ?_, fp, by rw [← n0]; exact q⟩
    rw [s0]
    exact Heap.get?_push_size _ rfl
  | true =>
    refine wpAny_pyIter_range at0 sm ⟨hp.objs.size, [hp.objs.size], _, _, H, rfl, up _, turn_range hp.objs.size i 0, ?_, fp, by rw [← n0]; exact q⟩
    show IsRangeIter _ _ (i + ((0 : Nat) : Int) * 1) (((0 : Nat) : Int) - ((0 : Nat) : Int)) 1
    rw [s0, show i + ((0 : Nat) : Int) * 1 = i from by simp]
    exact Heap.get?_push_size _ rfl
def iRngX (ta : TA) : TI := fun σ H R => ta σ H fun vs H1 => ∃ i j : Int, vs = [.int i, .int j] ∧ ((-(2 ^ 62) ≤ i ∧ i < 2 ^ 62 ∧ -(2 ^ 62) ≤ j ∧ j < 2 ^ 62) ∨ j ≤ i) ∧ R (Itr i (j - i).toNat) H1
theorem rd_iRngX {ta : TA} {σ : L2.St} {H : Hp} {R : It → Hp → Prop} (q : ta σ H fun vs H1 => ∃ i j : Int, vs = [.int i, .int j] ∧ ((-(2 ^ 62) ≤ i ∧ i < 2 ^ 62 ∧ -(2 ^ 62) ≤ j ∧ j < 2 ^ 62) ∨ j ≤ i) ∧ R (Itr i (j - i).toNat) H1) : iRngX ta σ H R := q
theorem pi_rangeX {X : Cx} {tg a b : Expr} {ta : TA} {p pos : Pos} (hg : Gl X "range") (hm : X.mg "range" = none) (ha : PA X [a, b] ta) (h2 : starEach [a, b] X.env = [(false, eval a X.env), (false, eval b X.env)] := by rfl) (h1 : starEach [b] X.env = [(false, eval b X.env)] := by rfl) : PI X tg (.Call (.Name "range" p) [a, b] [] pos) (iRngX ta) := by
  refine ⟨fun pins s σ H R I h => Call_ (ld_blt I hg hm boot_range (PyProof.Rows.callWith_type1 (thn (ha.run pos pins s σ H _ I h) ?_) (by rw [h2, h1]) (by rw [h1]; rfl)))⟩
  rintro us s1 ⟨vs, H1, I1, r1, i, j, rfl, hb, q⟩
  obtain ⟨u, us, rfl, r, r1⟩ : ∃ u us', us = u :: us' ∧ RelV (.int i) u ∧ Vals [.int j] us' := by
    cases r1 with
    | cons r r1 => exact ⟨_, _, rfl, r, r1⟩
  obtain ⟨v, rfl, rv⟩ := r1.one
  obtain ⟨t, rfl⟩ := r
  obtain ⟨t', rfl⟩ := rv
  exact call_range_2 (range_any I1 hb q)
/-! ### a word and an odd value, shown -/
end Hf
namespace Hf
open PySem PySem.Spec PyProof.Rows L2
theorem Tabs.other {T : List (Addr × Str)} {H H' : Hp} {p : Addr} {C dx : Addr} {fs : List (Str × V)} (t : LamX.Tabs T H) (hp : H p = some (.ins C dx fs)) (e : Keep p H H') : LamX.Tabs T H' := by
  intro q hq
  obtain ⟨ps, h1, h2, h3⟩ := t q hq
  refine ⟨ps, e _ _ h1 (ne_of h1 hp (by intro z; cases z)), h2, fun pos cv hc => ?_⟩
  obtain ⟨c, e1, e2⟩ := h3 pos cv hc
  exact ⟨c, e1, e _ _ e2 (ne_of e2 hp (by intro z; unfold LamX.CodeO at z; cases z))⟩
end Hf
namespace Hf
open PySem PySem.Spec PyProof.Rows L2
/-! ### pixels painted one after another (no program in sight) -/
def paint1 (R : Pic) (q : Pt) (d : Nat) : Pic := R.set q.2.toNat ((R.getD q.2.toNat []).set q.1.toNat d)
section
variable {w h d : Nat} {R : Pic} {q : Pt}
theorem paint1_good (G : Good w h R) (hd : d < 10) (hq : q.2.toNat < h) : Good w h (paint1 R q d) := by
  have m := getD_mem (L := R) (j := q.2.toNat) (by rw [G.h]; exact hq)
  refine G.set (by rw [List.length_set]; exact G.w _ m) fun x hx => ?_
  rcases List.mem_or_eq_of_mem_set hx with hx | hx
  · exact G.d _ m x hx
  · rw [hx]; exact hd
theorem paint1_px (G : Good w h R) {i j : Nat} (hi : i < w) (hj : j < h) (q1 : 0 ≤ q.1) (q2 : 0 ≤ q.2) : px (paint1 R q d) j i = if ((i : Int), (j : Int)) = q then d else px R j i := by
  have lj : j < R.length := by rw [G.h]; exact hj
  have rl : (R.getD j []).length = w := G.w _ (getD_mem lj)
  unfold px paint1
  by_cases ej : q.2.toNat = j
  · have e1 : (R.set q.2.toNat ((R.getD q.2.toNat []).set q.1.toNat d)).getD j [] = (R.getD j []).set q.1.toNat d := by
      rw [ej, List.getD_eq_getElem?_getD, List.getElem?_set_self lj]
      rfl
    rw [e1]
    by_cases ei : q.1.toNat = i
    · rw [if_pos (Prod.ext (by show (i : Int) = q.1; omega) (by show (j : Int) = q.2; omega)), ei, List.getD_eq_getElem?_getD, List.getElem?_set_self (by rw [rl]; exact hi)]
      rfl
    · rw [if_neg (fun z => ei (by rw [← z]; simp)), List.getD_eq_getElem?_getD, List.getElem?_set_ne ei, ← List.getD_eq_getElem?_getD]
  · rw [if_neg (fun z => ej (by rw [← z]; simp)), List.getD_eq_getElem?_getD (l := R.set _ _), List.getElem?_set_ne ej, ← List.getD_eq_getElem?_getD]
end
/-! ### rows of single signs in the heap -/
abbrev sgn (d : Nat) : V := rowV [d]
def GridAt (H : Hp) (rs : List Addr) (R : Pic) : Prop := F2 (fun a r => H a = some (.lst (r.map sgn))) rs R
theorem GridAt.same {H H' : Hp} {rs : List Addr} {R : Pic} (g : GridAt H rs R) (e : Same H H') : GridAt H' rs R := F2.imp (fun a r z => e _ _ z) g
theorem F2.setR {α β : Type} {P P' : α → β → Prop} : ∀ {as : List α} {bs : List β} {j : Nat} {a : α} {b : β}, F2 P as bs → as[j]? = some a → P' a b → (∀ (i : Nat) (x : α) (y : β), i ≠ j → as[i]? = some x → bs[i]? = some y → P x y → P' x y) → F2 P' as (bs.set j b)
  | _, _, _, _, _, .nil, h, _, _ => by cases h
  | _, _, 0, _, _, .cons hd tl, h, hb, k => by
    cases h
    refine .cons hb ?_
    have go : ∀ {as : List α} {bs : List β} (n : Nat), F2 P as bs → (∀ (i : Nat) (x : α) (y : β), as[i]? = some x → bs[i]? = some y → P x y → P' x y) → F2 P' as bs := by
      intro as bs n f
      induction f with
      | nil => exact fun _ => .nil
      | cons h1 _ ih => exact fun k => .cons (k 0 _ _ rfl rfl h1) (ih fun i x y a b => k (i + 1) x y a b)
    exact go 0 tl fun i x y a b => k (i + 1) x y (by omega) a b
  | _, _, j + 1, _, _, .cons hd tl, h, hb, k => .cons (k 0 _ _ (by omega) rfl rfl hd) (F2.setR (j := j) tl h hb fun i x y n a b => k (i + 1) x y (by omega) a b)
theorem nodup_ix {α : Type} : ∀ {l : List α} {i j : Nat} {a : α}, l.Nodup → l[i]? = some a → l[j]? = some a → i = j
  | [], _, _, _, _, h, _ => by cases h
  | _ :: _, 0, 0, _, _, _, _ => rfl
  | x :: l, 0, j + 1, a, nd, h1, h2 => by
    cases h1
    exact absurd (List.mem_of_getElem? (show l[j]? = some x from h2)) (List.nodup_cons.mp nd).1
  | x :: l, i + 1, 0, a, nd, h1, h2 => by
    cases h2
    exact absurd (List.mem_of_getElem? (show l[i]? = some x from h1)) (List.nodup_cons.mp nd).1
  | _ :: l, i + 1, j + 1, a, nd, h1, h2 => congrArg (· + 1) (nodup_ix (l := l) (List.nodup_cons.mp nd).2 h1 h2)
theorem GridAt.set {H : Hp} {rs : List Addr} {R : Pic} {q : Pt} {a : Addr} {d : Nat} (g : GridAt H rs R) (nd : rs.Nodup) (ha : rs[q.2.toNat]? = some a) : GridAt (upd H a (.lst (((R.getD q.2.toNat []).set q.1.toNat d).map sgn))) rs (paint1 R q d) := by
  refine F2.setR g ha upd_same fun i x y n hx hy z => ?_
  rw [upd_ne (fun e => n ?_)]
  · exact z
  · subst e
    exact nodup_ix nd hx ha
/-- a comprehension that makes lists -/
theorem lc_lstW {J : It} {n : Nat} {G0 : Hp → Prop} {Y : Nat → Hp → V → Hp → Prop} (w : Walk J n G0 Y) {g : TG} {te : TE} {vs : List Nat} {σ : L2.St} {H : Hp} {Q : VK} (G : Nat → List V) (hG : ∀ H', Same H H' → G0 H') (hn : n ≤ 1000)
    (hev : ∀ (j : Nat) (x : V) (H1 H2 : Hp) (R : VK), j < n → Same H H1 → Y j H1 x H2 → (∀ (t : Addr) (H4 : Hp), H1 t = none → H4 t = some (.lst (G j)) → Same H1 H4 → R (.ref t) H4) → g x (wipe σ vs) H2 fun σ2 H3 => wipe σ2 vs = wipe σ vs ∧ te σ2 H3 R)
    (k : ∀ (D : Addr) (ts : List Addr) (H' : Hp), H D = none → H' D = some (.lst (ts.map V.ref)) → F2 (fun t xs => H' t = some (.lst xs)) ts ((List.range n).map G) → ts.Nodup → (∀ t ∈ ts, H t = none ∧ t ≠ D) → Same H H' → Q (.ref D) H') : LcK g tYes te vs σ Q J H := by
  intro D hD
  refine lc_it w (g := g) (tt := tYes) (te := te) (vs := vs) (σ := σ) (Qd := fun H => Q (.ref D) H) (fun j H' => (∃ ts : List Addr, H' D = some (.lst (ts.map V.ref)) ∧ F2 (fun t xs => H' t = some (.lst xs)) ts ((List.range j).map G) ∧ ts.Nodup ∧ ∀ t ∈ ts, H t = none ∧ t ≠ D) ∧ Same H H') ⟨⟨[], upd_same, .nil, List.nodup_nil, fun t z => by cases z⟩, Same.new hD⟩ (fun j H' _ p => hG H' p.2) ?_ ?_
  · rintro j x H1 H2 hj ⟨⟨ts, e, f, nd, fr⟩, s⟩ y
    refine hev j x H1 H2 _ hj s y fun t H4 nt ht s4 => ?_
    have lts : ts.length = j := by rw [f.len, List.length_map, List.length_range]
    have tD : t ≠ D := (ne_of_none e nt).symm
    have tn : ∀ a ∈ ts, a ≠ t := fun a ha z => by
      obtain ⟨i, hi, ea⟩ := List.mem_iff_getElem.mp ha
      obtain ⟨b, _, hb⟩ := f.get (List.getElem?_eq_getElem hi)
      rw [ea, z, nt] at hb
      cases hb
    refine ⟨_, s4 _ _ e, by rw [List.length_map, lts]; exact small1000 (by omega), ⟨ts ++ [t], by rw [upd_same, List.map_append]; rfl, ?_, ?_, fun a ha => ?_⟩, Same.mut (s.trans s4) hD⟩
    · rw [List.range_succ, List.map_append]
      refine F2.append ?_ (.cons (by rw [upd_ne tD]; exact ht) .nil)
      have go : ∀ {as : List Addr} {bs : List (List V)}, F2 (fun t xs => H1 t = some (HO.lst xs)) as bs → (∀ a ∈ as, a ≠ D) → F2 (fun c xs => (upd H4 D (.lst (ts.map V.ref ++ [V.ref t]))) c = some (HO.lst xs)) as bs := by
        intro as bs z
        induction z with
        | nil => exact fun _ => .nil
        | cons h1 _ ih => exact fun m => .cons (by rw [upd_ne (m _ List.mem_cons_self)]; exact s4 _ _ h1) (ih fun a ha => m a (List.mem_cons_of_mem _ ha))
      exact go f fun a ha => (fr a ha).2
    · rw [List.nodup_append]
      refine ⟨nd, by simp, fun a ha b hb => ?_⟩
      rw [List.mem_singleton.mp hb]
      exact tn a ha
    · rcases List.mem_append.mp ha with ha | ha
      · exact fr a ha
      · rw [List.mem_singleton.mp ha]
        exact ⟨same_back s nt, tD⟩
  · rintro H1 ⟨⟨ts, e, f, nd, fr⟩, s⟩
    exact k D ts H1 hD e f nd fr s
/-! ### list(text) -/
end Hf
namespace Hf
open PySem PySem.Spec PyProof.Rows L2
def rJoinK (K : PySem.W.Frag) : V → List V → Hp → VK → Prop := fun x xs H Q => ∃ a p, ∃ ys : List Str, x = .str a ∧ xs = [.ref p] ∧ (SqL K H p (ys.map V.str) ∨ SqT K H p (ys.map V.str)) ∧ (ys.map (·.length)).sum + ys.length * a.length ≤ 16777216 ∧ Q (.str (Txt.join a ys)) H
theorem mt_joinB {X : Cx} {K : PySem.W.Frag} (hK : X.K = K := by rfl) : MtR X "str.join" (rJoinK K) := by
  subst hK
  exact mt_join
end Hf
namespace Hf
open PySem PySem.Spec PyProof.Rows L2
/-! ### a pixel in a list of pixels -/
/-! ### the law's own search, in a list -/
/-! ### all pixels of a plain picture hang together -/
end Hf
namespace Hf
open PySem PySem.Spec PyProof.Rows L2
end Hf
namespace Hf
open PySem PySem.Spec PyProof.Rows L2
theorem tups_same {H H' : Hp} {us : List Addr} {M : List Pt} (U : F2 (TupP H) us M) (e : Same H H') : F2 (TupP H') us M := tups_keep U (.same e)
/-- what the law's search found, whatever the case -/
structure Hit (w h : Nat) (L : Pic) (x y : Int) (M : List Pt) : Prop where
  i : ∀ q ∈ M, 0 ≤ q.1 ∧ q.1 < w ∧ 0 ≤ q.2 ∧ q.2 < h
  o : insideB w h x y = false → M = []
  n : insideB w h x y = true → M.Nodup ∧ ∀ q, q ∈ M ↔ Conn L (x, y) q
theorem Hit.len {w h : Nat} {L : Pic} {x y : Int} {M : List Pt} (z : Hit w h L x y M) (F : Fit w h) : M.length ≤ 40000 := by
  cases e : insideB w h x y with
  | false => rw [z.o e]; decide
  | true => exact Nat.le_trans (pts_le (z.n e).1 z.i) (Nat.le_trans (Nat.mul_le_mul F.w2 F.h2) (by decide))
end Hf
namespace Hf
open PySem PySem.Spec PyProof.Rows L2
/-! ### o[i] = v and x |= y by own defs -/
section
variable {X : Cx} {C : Addr} {sp : Sp} {E : XK} {k j : Nat}
def rSetM (C : Addr) (sp : Sp) (E : XK) : TSet := fun o i v H Q => ∃ p dx fs, o = .ref p ∧ H p = some (.ins C dx fs) ∧ sp [.ref p, i, v] H (fun _ H' => Q H') E
theorem set_own (hq : PySem.W.noSeq X.K C = true) (M : Met X.prog X.w X.K X.mg X.base k C "__setitem__" sp) (hr : Room j X.A) (hx : Passes (L2.CX X.prog X.w) X E) (hk : k ≤ j := by decide) : PSet X (rSetM C sp E) := by
  obtain ⟨g, o, F⟩ := M.opr
  intro pins s σ H ov iv vv vo vi vu Q I ro ri rv h
  obtain ⟨p, dx, fs, rfl, hp, q⟩ := h
  cases (show vo = Value.ref p from ro)
  obtain ⟨ox, od, J⟩ := ins_at I hp
  obtain ⟨m, hF⟩ := I.fr
  refine PySem.W.ksp_setItem hF I.ok.mod.kin J hq o.at_ o.fn ?_
  refine wpAny_mono (wpAny_call (run_fnR (us := [.ref p, vi, vu]) (vs := [.ref p, iv, vv]) F (hr.mono hk) hx I (.cons rfl (.cons ri (.cons rv .nil))) q)) (fun w s' z => ?_) fun _ _ x => x
  obtain ⟨z', H', I', rz, qz⟩ := z
  exact ⟨H', I', qz⟩
end
/-! ### zip of a tuple and a list -/
/-! ### pixels of a canvas -/
def PixBad (K : PySem.W.Frag) (H : Hp) (w h : Nat) (a b : V) : Prop := NotW K H a ∨ ∃ i : Int, a = .int i ∧ (NotW K H b ∨ ∃ j : Int, b = .int j ∧ insideB w h i j = false)
def spNPixX (K : PySem.W.Frag) (CP : Addr) : Sp := fun vs H Q E => ∃ (l : Addr) (R : Pic) (w h : Nat) (a b : V), vs = [.ref l, a, b] ∧ RowsS K H l R ∧ Good w h R ∧ Fit w h ∧
  ((PixBad K H w h a b ∧ LetS E CP H [("y", b), ("x", a)]) ∨ ∃ i j : Int, a = .int i ∧ b = .int j ∧ insideB w h i j = true ∧ Q .non H)
def spCvSet (K : PySem.W.Frag) (C CX CB : Addr) : Sp := fun vs H Q E => ∃ (p t : Addr) (a b v : V) (L : Pic) (w h : Nat), vs = [.ref p, .ref t, v] ∧ CvG C H p w h L ∧ Fit w h ∧ H t = some (.tup [a, b]) ∧
  ((PixBad K H w h a b ∧ LetS E CX H [("y", b), ("x", a)]) ∨ ∃ i j : Nat, a = .int (i : Int) ∧ b = .int (j : Int) ∧ i < w ∧ j < h ∧
    ((ColBad K H v ∧ LetS E CB H [("value", v)]) ∨ ∃ d : Int, v = .int d ∧ 0 ≤ d ∧ d ≤ 9 ∧ ∀ H', CvG C H' p w h (paint1 L ((i : Int), (j : Int)) d.toNat) → Keep p H H' → Q .non H'))
theorem paint_set {L : Pic} {i j d : Nat} {r : List Nat} (h : L[j]? = some r) (hi : i < r.length) : paint1 L ((i : Int), (j : Int)) d = L.set j (r.take i ++ [d] ++ r.drop (i + 1)) := by
  unfold paint1
  show L.set ((j : Int)).toNat ((L.getD ((j : Int)).toNat []).set ((i : Int)).toNat d) = _
  rw [Int.toNat_natCast, Int.toNat_natCast, List.getD_eq_getElem?_getD, h]
  show L.set j (r.set i d) = _
  have e : r.set i d = r.take i ++ d :: r.drop (i + 1) := by rw [List.set_eq_take_append_cons_drop, if_pos hi]
  rw [e, List.append_assoc]
  rfl
/-! ### |= and == of canvases -/
/-- what stays while the lists b and the canvas p change -/
def Kp2 (b p : Addr) (H H' : Hp) : Prop := ∀ a o, H a = some o → a ≠ b → a ≠ p → H' a = some o
section
variable {b c p q : Addr} {H H1 H' : Hp} {C CP : Addr} {w h w' h' k : Nat} {L R : Pic}
theorem Kp2.ofB (e : Keep b H H') : Kp2 b p H H' := fun a o z n _ => e a o z n
theorem Kp2.ofP (e : Keep p H H') : Kp2 b p H H' := fun a o z _ n => e a o z n
theorem Kp2.ofS (e : Same H H') : Kp2 b p H H' := fun a o z _ _ => e a o z
theorem Kp2.trans (e : Kp2 b p H H1) (f : Kp2 b p H1 H') : Kp2 b p H H' := fun a o z n m => f a o (e a o z n m) n m
theorem cv_pic {f : Nat} (x : CvG C H p w h L) (g : PicG CP H q w' h' R) : q ≠ p := by
  obtain ⟨dx, l, hp, _⟩ := x.at_
  obtain ⟨dy, t, hq, _⟩ := g.at_
  intro z
  rw [z, hp] at hq
  injection hq with hq
  injection hq with _ _ hq
  have := (Prod.mk.inj (List.cons.inj hq).1).1
  exact absurd this (by decide +kernel)
theorem PicG.cv (x : CvG C H p w h L) (g : PicG CP H q w' h' R) (e : Keep p H H') : PicG CP H' q w' h' R := by
  have n := cv_pic (f := 0) x g
  obtain ⟨dx, l, hp, _⟩ := x.at_
  obtain ⟨dy, t, hq, ht⟩ := g.at_
  exact ⟨⟨dy, t, e _ _ hq n, e _ _ ht (ne_of ht hp (by intro z; cases z))⟩, g.g⟩
theorem Kp2.tup {t : Addr} {xs : List V} (P : Pen H b c k) (x : CvG C H p w h L) (e : Kp2 b p H H') (ht : H t = some (.tup xs)) : H' t = some (.tup xs) := by
  obtain ⟨dx, l, hp, _⟩ := x.at_
  obtain ⟨cs, m, r, h1, _⟩ := P
  exact e _ _ ht (ne_of ht h1 (by intro z; cases z)) (ne_of ht hp (by intro z; cases z))
theorem Kp2.lst {t : Addr} {xs : List V} (n : t ≠ b) (x : CvG C H p w h L) (e : Kp2 b p H H') (ht : H t = some (.lst xs)) : H' t = some (.lst xs) := by
  obtain ⟨dx, l, hp, _⟩ := x.at_
  exact e _ _ ht n (ne_of ht hp (by intro z; cases z))
end
end Hf
namespace Hf
open PySem PySem.Spec PyProof.Rows L2
section
variable {K : PySem.W.Frag} {mg : Str → Option Value} {C CP CU CX CB p q t : Addr} {H : Hp} {w h w' h' : Nat} {L R : Pic} {E : XK} {Q : VK}
theorem use_cvSet {i j : Nat} {d : Int} {QQ : Hp → Prop} (x : CvG C H p w h L) (F : Fit w h) (ht : H t = some (.tup [.int (i : Int), .int (j : Int)])) (hi : i < w) (hj : j < h) (d0 : 0 ≤ d) (d9 : d ≤ 9) (k : ∀ H', CvG C H' p w h (paint1 L ((i : Int), (j : Int)) d.toNat) → Keep p H H' → QQ H') : rSetM C (spCvSet K C CX CB) E (.ref p) (.ref t) (.int d) H QQ := by
  obtain ⟨dx, l, hp, _⟩ := id x.at_
  exact ⟨p, dx, _, rfl, hp, p, t, _, _, _, L, w, h, rfl, x, F, ht, .inr ⟨i, j, rfl, rfl, hi, hj, .inr ⟨d, rfl, d0, d9, k⟩⟩⟩
end
end Hf
namespace Hf
open PySem PySem.Spec PyProof.Rows L2
end Hf
namespace Hf
open PySem PySem.Spec PyProof.Rows L2
theorem PicG.keepL {C p b : Addr} {H H' : Hp} {w h : Nat} {R : Pic} {xs : List V} (g : PicG C H p w h R) (hb : H b = some (.lst xs)) (e : Keep b H H') : PicG C H' p w h R := ⟨g.at_.keepL hb e, g.g⟩
end Hf
namespace Hf
open PySem PySem.Spec PyProof.Rows L2
/-- a picture beside its rows, in a tuple -/
def PastE (CP : Addr) (w h : Nat) (H : Hp) (t : Addr) (S : Pic) : Prop := ∃ q u, H t = some (.tup [.ref q, .ref u]) ∧ PicG CP H q w h S ∧ H u = some (.tup (S.map rowV))
structure PastAt (CP : Addr) (w h : Nat) (H : Hp) (pa : Addr) (ts : List Addr) (Ss : List Pic) : Prop where
  l : H pa = some (.lst (ts.map V.ref))
  f : F2 (PastE CP w h H) ts Ss
section
variable {C CP b c p pa l t : Addr} {H H' : Hp} {w h k : Nat} {L S : Pic} {ts : List Addr} {Ss : List Pic}
theorem Good.ne (G : Good w h L) (h1 : 1 ≤ h) : L ≠ [] := by
  intro z
  have := G.h
  rw [z] at this
  simp at this
  omega
theorem PastE.imp (e : PastE CP w h H t S) (ft : ∀ t xs, H t = some (.tup xs) → H' t = some (.tup xs)) (fp : ∀ q, PicG CP H q w h S → PicG CP H' q w h S) : PastE CP w h H' t S := let ⟨q, u, a, g, d⟩ := e; ⟨q, u, ft _ _ a, fp _ g, ft _ _ d⟩
theorem PastAt.imp (e : PastAt CP w h H pa ts Ss) (fl : H' pa = H pa) (ft : ∀ t xs, H t = some (.tup xs) → H' t = some (.tup xs)) (fp : ∀ q S, PicG CP H q w h S → PicG CP H' q w h S) : PastAt CP w h H' pa ts Ss := ⟨by rw [fl]; exact e.l, F2.imp (fun _ _ z => z.imp ft fun q g => fp q _ g) e.f⟩
theorem PastAt.same (e : PastAt CP w h H pa ts Ss) (s : Same H H') : PastAt CP w h H' pa ts Ss := e.imp (by rw [e.l]; exact s _ _ e.l) (fun _ _ z => s _ _ z) fun _ _ g => g.same s
theorem PastAt.extN (e : PastAt CP w h H pa ts Ss) (s : LamX.ExtN H H') : PastAt CP w h H' pa ts Ss := e.imp (by rw [e.l]; exact s _ _ e.l (fun ps z => by cases z)) (fun _ _ z => s _ _ z (fun ps z => by cases z)) fun _ _ g => g.extN s
theorem PastAt.cv (e : PastAt CP w h H pa ts Ss) (x : CvG C H p w h L) (s : Keep p H H') : PastAt CP w h H' pa ts Ss := e.imp (by rw [e.l]; exact x.other s e.l (fun _ _ _ z => by cases z)) (fun _ _ z => x.other s z (fun _ _ _ z => by cases z)) fun _ _ g => g.cv x s
theorem PastAt.push {q u : Addr} (e : PastAt CP w h H pa ts Ss) (ht : H t = some (.tup [.ref q, .ref u])) (g : PicG CP H q w h S) (hu : H u = some (.tup (S.map rowV))) : PastAt CP w h (upd H pa (.lst (ts.map V.ref ++ [V.ref t]))) pa (ts ++ [t]) (Ss ++ [S]) := by
  have kt : ∀ (t : Addr) (xs : List V), H t = some (.tup xs) → (upd H pa (.lst (ts.map V.ref ++ [V.ref t]))) t = some (.tup xs) := fun t xs z => by
    rw [upd_ne (ne_of z e.l (by intro z; cases z))]
    exact z
  refine ⟨by rw [upd_same, List.map_append]; rfl, ?_⟩
  have kt : ∀ (t' : Addr) (xs : List V), H t' = some (.tup xs) → (upd H pa (.lst (ts.map V.ref ++ [V.ref t]))) t' = some (.tup xs) := fun t' xs z => by
    rw [upd_ne (ne_of z e.l (by intro z; cases z))]
    exact z
  have kp : ∀ (q : Addr) (S : Pic), PicG CP H q w h S → PicG CP (upd H pa (.lst (ts.map V.ref ++ [V.ref t]))) q w h S := fun q S g => g.keepL e.l Keep.upd
  exact (F2.imp (fun _ _ z => z.imp kt fun q g => kp q _ g) e.f).append (.cons ⟨q, u, kt _ _ ht, kp _ _ g, kt _ _ hu⟩ .nil)
end
end Hf
namespace Hf
open PySem PySem.Spec PyProof.Rows L2
end Hf
namespace Hf
open PySem PySem.Spec PyProof.Rows L2
/-! ### sizes of canvases that are none -/
def SzBad (K : PySem.W.Frag) (H : Hp) (v : V) : Prop := NotW K H v ∨ ∃ i : Int, v = .int i ∧ ¬ (1 ≤ i ∧ i ≤ 200)
theorem SzBad.same {K : PySem.W.Frag} {H H' : Hp} {v : V} (h : SzBad K H v) (e : Same H H') : SzBad K H' v := h.imp (fun x => x.same e) id
theorem SzBad.extN {K : PySem.W.Frag} {H H' : Hp} {v : V} (h : SzBad K H v) (e : LamX.ExtN H H') : SzBad K H' v := h.imp (fun x => x.extN e) id
theorem PixBad.same {K : PySem.W.Frag} {H H' : Hp} {w h : Nat} {a b : V} (x : PixBad K H w h a b) (e : Same H H') : PixBad K H' w h a b := by
  rcases x with x | ⟨i, ei, x⟩
  · exact .inl (x.same e)
  · exact .inr ⟨i, ei, x.imp (fun z => z.same e) id⟩
theorem PixBad.extN {K : PySem.W.Frag} {H H' : Hp} {w h : Nat} {a b : V} (x : PixBad K H w h a b) (e : LamX.ExtN H H') : PixBad K H' w h a b := by
  rcases x with x | ⟨i, ei, x⟩
  · exact .inl (x.extN e)
  · exact .inr ⟨i, ei, x.imp (fun z => z.extN e) id⟩
/-! ### what a law hears: errors with one field or two -/
/-! ### rows of numbers in the heap -/
abbrev inum (d : Nat) : V := .int (d : Int)
def GI (H : Hp) (rs : List Addr) (R : Pic) : Prop := F2 (fun a r => H a = some (.lst (r.map inum))) rs R
theorem GI.same {H H' : Hp} {rs : List Addr} {R : Pic} (g : GI H rs R) (e : Same H H') : GI H' rs R := F2.imp (fun a r z => e _ _ z) g
theorem GI.extN {H H' : Hp} {rs : List Addr} {R : Pic} (g : GI H rs R) (e : LamX.ExtN H H') : GI H' rs R := F2.imp (fun a r z => e _ _ z (fun ps y => by cases y)) g
theorem GI.set {H : Hp} {rs : List Addr} {R : Pic} {i j : Nat} {a : Addr} {d : Nat} (g : GI H rs R) (nd : rs.Nodup) (ha : rs[j]? = some a) : GI (upd H a (.lst (((R.getD j []).set i d).map inum))) rs (paint1 R ((i : Int), (j : Int)) d) := by
  unfold paint1
  refine F2.setR g (by show rs[((j : Int)).toNat]? = _; rw [Int.toNat_natCast]; exact ha) (by show upd H a _ a = _; rw [upd_same]; show some (HO.lst (((R.getD j []).set i d).map inum)) = some (HO.lst (((R.getD ((j : Int)).toNat []).set ((i : Int)).toNat d).map inum)); rw [Int.toNat_natCast, Int.toNat_natCast]) (fun i x y n hx hy z => ?_)
  rw [upd_ne (fun e => n ?_)]
  · exact z
  · subst e
    show i = ((j : Int)).toNat
    rw [Int.toNat_natCast]
    exact nodup_ix nd hx ha
section
variable {H H' : Hp} {b c l a gl p C : Addr} {n r : Int} {k w h : Nat} {row : List Nat} {L : Pic} {rs : List Addr} {xs : List V}
theorem num_ne (h1 : H b = some (.lst (.ref c :: xs))) (h2 : H a = some (.lst (row.map inum))) : a ≠ b := by
  intro z
  rw [z, h1] at h2
  cases row <;> cases h2
theorem rows_num (h1 : H a = some (.lst (row.map inum))) (h2 : H l = some (.lst (L.map rowV))) (hL : L ≠ []) : l ≠ a := by
  intro z
  rw [z, h1] at h2
  cases L with
  | nil => exact hL rfl
  | cons x L => cases row <;> cases h2
theorem GI.pen (g : GI H rs L) (P : Pen H b c k) (e : Keep b H H') : GI H' rs L := by
  obtain ⟨cs, m, q, h1, _⟩ := P
  exact F2.imp (fun a r z => e _ _ z (num_ne h1 z)) g
theorem GI.cv {M : Pic} (g : GI H rs L) (x : CvG C H p w h M) (e : Keep p H H') : GI H' rs L := F2.imp (fun a r z => x.other e z (fun _ _ _ y => by cases y)) g
theorem refs_ne (h1 : H b = some (.lst [.ref c, .int n, .int r])) (hg : H gl = some (.lst (rs.map V.ref))) : gl ≠ b := by
  intro z
  rw [z, h1] at hg
  match rs, hg with
  | [], hg => cases hg
  | [_], hg => cases hg
  | _ :: _ :: _, hg => cases hg
theorem GI.ne {x : Addr} {o : HO} (g : GI H rs L) (hx : H x = some o) (n : ∀ ys, o ≠ .lst ys) : x ∉ rs := by
  intro m
  obtain ⟨i, hi⟩ := List.mem_iff_getElem?.mp m
  obtain ⟨r, _, z⟩ := F2.get g hi
  rw [hx] at z
  cases z
  exact n _ rfl
end
/-- all but the pen's list, the canvas, the rows of numbers and the tables stay -/
def KpG (b p : Addr) (rs : List Addr) (H H' : Hp) : Prop := ∀ a o, H a = some o → (∀ ps, o ≠ .tbl ps) → a ≠ b → a ≠ p → a ∉ rs → H' a = some o
section
variable {b c p : Addr} {rs : List Addr} {H H1 H' : Hp}
theorem KpG.ofB (e : Keep b H H') : KpG b p rs H H' := fun a o z _ n _ _ => e a o z n
theorem KpG.ofP (e : Keep p H H') : KpG b p rs H H' := fun a o z _ _ n _ => e a o z n
theorem KpG.ofS (e : Same H H') : KpG b p rs H H' := fun a o z _ _ _ _ => e a o z
theorem KpG.ofN (e : LamX.ExtN H H') : KpG b p rs H H' := fun a o z n _ _ _ => e a o z n
theorem KpG.ofR {a : Addr} (m : a ∈ rs) (e : Keep a H H') : KpG b p rs H H' := fun x o z _ _ _ n => e x o z (fun y => n (by rw [y]; exact m))
theorem KpG.trans (e : KpG b p rs H H1) (f : KpG b p rs H1 H') : KpG b p rs H H' := fun a o z t n m k => f a o (e a o z t n m k) t n m k
end
/-! ### three things, shown -/
/-! ### promises of the law's defs -/
def OddN (K : PySem.W.Frag) (H : Hp) (m : Int) (v : V) : Prop := (∃ d, Odd H v d) ∧ (NotW K H v ∨ ∃ i : Int, v = .int i ∧ ¬ (0 ≤ i ∧ i ≤ m))
theorem OddN.same {K : PySem.W.Frag} {H H' : Hp} {m : Int} {v : V} (h : OddN K H m v) (e : Same H H') : OddN K H' m v := ⟨h.1.imp fun d z => z.same e, h.2.imp (fun z => z.same e) id⟩
theorem OddN.extN {K : PySem.W.Frag} {H H' : Hp} {m : Int} {v : V} (h : OddN K H m v) (e : LamX.ExtN H H') : OddN K H' m v := ⟨h.1.imp fun d z => z.extN e, h.2.imp (fun z => z.extN e) id⟩
end Hf
namespace Hf
open PySem PySem.Spec PyProof.Rows L2
/-! ### lists of numbers as data -/
end Hf
namespace Hf
open PySem PySem.Spec PyProof.Rows L2
theorem pi_listB {X : Cx} {K : PySem.W.Frag} {l tg : Expr} {tl : TE} (hl : PE X l tl) (hK : X.K = K := by rfl) : PI X tg l (iList K tl) := by
  subst hK
  exact pi_list hl
end Hf
namespace Hf
open PySem PySem.Spec PyProof.Rows L2
end Hf
namespace Hf
open PySem PySem.Spec PyProof.Rows L2
theorem OddN.keep {K : PySem.W.Frag} {H H' : Hp} {m : Int} {v : V} {b : Addr} (h : OddN K H m v) (e : Keep b H H') (n : v ≠ .ref b) : OddN K H' m v := by
  obtain ⟨⟨d, o⟩, z⟩ := h
  refine ⟨⟨d, o.keep e n⟩, ?_⟩
  rcases z with ⟨t, b1, b2, ty, k1, k2, k3⟩ | z
  · exact .inl ⟨t, b1, b2, TyX.keep ty e n, k1, k2, k3⟩
  · exact .inr z
theorem OddN.int {K : PySem.W.Frag} {H : Hp} {m : Int} {v : V} (h : OddN K H m v) : ∃ d, Odd H v d := h.1
structure StpF (C b c p gl : Addr) (rs : List Addr) (T : List (Addr × Str)) (w h : Nat) (H0 H : Hp) (L M : Pic) (k : Nat) : Prop where
  x : CvG C H p w h L
  g : GI H rs M
  hg : H gl = some (.lst (rs.map V.ref))
  P : Pen H b c k
  T : LamX.Tabs T H
  K : KpG b p rs H0 H
section
variable {C b c p gl : Addr} {rs : List Addr} {T : List (Addr × Str)} {w h : Nat} {H0 H H' : Hp} {L M : Pic} {k k' : Nat}
theorem StpF.same (s : StpF C b c p gl rs T w h H0 H L M k) (e : Same H H') : StpF C b c p gl rs T w h H0 H' L M k := ⟨s.x.same e, s.g.same e, e _ _ s.hg, s.P.same e, s.T.ext e, s.K.trans (.ofS e)⟩
theorem StpF.extN (s : StpF C b c p gl rs T w h H0 H L M k) (e : LamX.ExtN H H') (t : LamX.Tabs T H') : StpF C b c p gl rs T w h H0 H' L M k := ⟨s.x.extN e, s.g.extN e, e _ _ s.hg (fun ps z => by cases z), s.P.extN e, t, s.K.trans (.ofN e)⟩
theorem StpF.less (s : StpF C b c p gl rs T w h H0 H L M k) (l : k' ≤ k) : StpF C b c p gl rs T w h H0 H L M k' := ⟨s.x, s.g, s.hg, s.P.less l, s.T, s.K⟩
theorem StpF.pen (s : StpF C b c p gl rs T w h H0 H L M k) (P' : Pen H' b c k') (e : Keep b H H') : StpF C b c p gl rs T w h H0 H' L M k' := by
  obtain ⟨cs, n, r, h1, _⟩ := id s.P
  exact ⟨s.x.pen s.P e, s.g.pen s.P e, e _ _ s.hg (refs_ne h1 s.hg), P', tabs_pen s.T s.P e, s.K.trans (.ofB e)⟩
theorem StpF.cv {N : Pic} (s : StpF C b c p gl rs T w h H0 H L M k) (x' : CvG C H' p w h N) (e : Keep p H H') : StpF C b c p gl rs T w h H0 H' N M k := by
  obtain ⟨dx, ql, hq, _⟩ := id s.x.at_
  exact ⟨x', s.g.cv s.x e, s.x.other e s.hg (fun _ _ _ z => by cases z), s.x.penC s.P e, Tabs.other s.T hq e, s.K.trans (.ofP e)⟩
theorem StpF.row {i j d : Nat} {a : Addr} (s : StpF C b c p gl rs T w h H0 H L M k) (nd : rs.Nodup) (fr : ∀ a ∈ rs, a ≠ c) (gn : gl ∉ rs) (hL : L ≠ []) (ha : rs[j]? = some a) : StpF C b c p gl rs T w h H0 (upd H a (.lst (((M.getD j []).set i d).map inum))) L (paint1 M ((i : Int), (j : Int)) d) k := by
  obtain ⟨r, er, hr⟩ := F2.get s.g ha
  have m := List.mem_of_getElem? ha
  obtain ⟨cs, n, q, h1, _⟩ := id s.P
  have e := Keep.upd (H := H) (p := a) (o := .lst (((M.getD j []).set i d).map inum))
  exact ⟨s.x.keepL hr (fun l hl => rows_num hr hl hL) e, s.g.set nd ha, e _ _ s.hg (fun z => gn (by rw [z]; exact m)), s.P.keep e (num_ne h1 hr) (fr a m), tabs_keepL s.T hr e, s.K.trans (.ofR m e)⟩
end
end Hf
namespace Hf
open PySem PySem.Spec PyProof.Rows L2
end Hf
namespace Hf
open PySem PySem.Spec PyProof.Rows L2
theorem NotW.keep' {K : PySem.W.Frag} {H H' : Hp} {v : V} {b : Addr} (h : NotW K H v) (e : Keep b H H') (n : v ≠ .ref b) : NotW K H' v := by
  obtain ⟨t, b1, b2, ty, k1, k2, k3⟩ := h
  exact ⟨t, b1, b2, TyX.keep ty e n, k1, k2, k3⟩
theorem PixBad.keep {K : PySem.W.Frag} {H H' : Hp} {w h : Nat} {a b : V} {c : Addr} (x : PixBad K H w h a b) (e : Keep c H H') (na : a ≠ .ref c) (nb : b ≠ .ref c) : PixBad K H' w h a b := by
  rcases x with x | ⟨i, ei, x⟩
  · exact .inl (NotW.keep' x e na)
  · exact .inr ⟨i, ei, x.imp (fun z => NotW.keep' z e nb) id⟩
end Hf
namespace Hf
open PySem PySem.Spec PyProof.Rows L2
def OddS (K : PySem.W.Frag) (H : Hp) (v : V) : Prop := (∃ d, Odd H v d) ∧ SzBad K H v
theorem OddS.same {K : PySem.W.Frag} {H H' : Hp} {v : V} (h : OddS K H v) (e : Same H H') : OddS K H' v := ⟨h.1.imp fun d z => z.same e, h.2.same e⟩
theorem OddS.extN {K : PySem.W.Frag} {H H' : Hp} {v : V} (h : OddS K H v) (e : LamX.ExtN H H') : OddS K H' v := ⟨h.1.imp fun d z => z.extN e, h.2.extN e⟩
theorem OddS.keep {K : PySem.W.Frag} {H H' : Hp} {v : V} {b : Addr} (h : OddS K H v) (e : Keep b H H') (n : v ≠ .ref b) : OddS K H' v := ⟨h.1.imp fun d z => z.keep e n, h.2.imp (fun z => NotW.keep' z e n) id⟩
theorem Odd.live {H : Hp} {a : Addr} {d : PyData} (o : Odd H (.ref a) d) (n : H a = none) : False := by
  cases o with
  | lst0 z => rw [n] at z; cases z
  | lstI z _ => rw [n] at z; cases z
  | tupI z _ => rw [n] at z; cases z
  | dic z => rw [n] at z; cases z
theorem OddS.ne {K : PySem.W.Frag} {H : Hp} {v : V} {a : Addr} (h : OddS K H v) (n : H a = none) : v ≠ .ref a := fun z => by
  obtain ⟨⟨d, o⟩, _⟩ := h
  rw [z] at o
  exact o.live n
end Hf
namespace Hf
open PySem PySem.Spec PyProof.Rows L2
section
variable {C b c p q : Addr} {rs : List Addr} {H H' : Hp} {w h k : Nat} {L M N : Pic}
theorem GI.sub (g : GI H rs L) : ∀ js : List Nat, (∀ j ∈ js, j < rs.length) → GI H (js.map fun j => rs.getD j 0) (js.map fun j => L.getD j [])
  | [], _ => .nil
  | j :: js, hj => by
    have lj := hj j List.mem_cons_self
    obtain ⟨r, er, z⟩ := F2.get g (List.getElem?_eq_getElem lj)
    refine .cons ?_ (GI.sub g js fun i hi => hj i (List.mem_cons_of_mem _ hi))
    show H (rs.getD j 0) = some (.lst ((L.getD j []).map inum))
    rw [List.getD_eq_getElem?_getD, List.getElem?_eq_getElem lj, List.getD_eq_getElem?_getD, er]
    exact z
end
end Hf
namespace Hf
open PySem PySem.Spec PyProof.Rows L2
end Hf
namespace Hf
open PySem PySem.Spec PyProof.Rows L2
/-! ### C.m(..), m a classmethod -/
/-! ### C.m(k = ..) -/
/-! ### c(..), c a local name that holds a class -/
end Hf
namespace Hf
open PySem PySem.Spec PyProof.Rows L2
/-! ### texts as lists of signs -/
abbrev tv (cs : List Nat) : V := .str (SX.S cs)
structure Pg (N : Nat) (cs : List Nat) : Prop where
  l : cs.length ≤ N
  a : ∀ c ∈ cs, c < 128
theorem Pg.le {N M : Nat} {cs : List Nat} (g : Pg N cs) (h : N ≤ M) : Pg M cs := ⟨Nat.le_trans g.l h, g.a⟩
/-! ### cut at line ends -/
/-! ### the first wrong line -/
/-! ### texts of pictures -/
/-! ### pages put together -/
theorem Pg.take {N : Nat} {a : List Nat} (x : Pg N a) (k : Nat) : Pg N (a.take k) := ⟨Nat.le_trans (by rw [List.length_take]; omega) x.l, fun c hc => x.a c (List.mem_of_mem_take hc)⟩
theorem Pg.drop {N : Nat} {a : List Nat} (x : Pg N a) (k : Nat) : Pg N (a.drop k) := ⟨Nat.le_trans (by rw [List.length_drop]; omega) x.l, fun c hc => x.a c (List.mem_of_mem_drop hc)⟩
end Hf
namespace Hf
open PySem PySem.Spec PyProof.Rows L2
/-! ### promises about texts -/
/-- a value that is no text -/
def NotS (K : PySem.W.Frag) (H : Hp) (v : V) : Prop := ∃ t : Value, TyX K H v t ∧ PySem.W.kitOne K t (.type "str") = some false
theorem NotS.same {K : PySem.W.Frag} {H H' : Hp} {v : V} (h : NotS K H v) (e : Same H H') : NotS K H' v := let ⟨t, a, b⟩ := h; ⟨t, TyX.same a e, b⟩
theorem ns_non {K : PySem.W.Frag} {H : Hp} : NotS K H .non := ⟨_, .base .non, by kernel_rfl⟩
theorem ns_bl {K : PySem.W.Frag} {H : Hp} {b : Bool} : NotS K H (.bl b) := ⟨_, .base (.bl b), by kernel_rfl⟩
theorem ns_int {K : PySem.W.Frag} {H : Hp} {i : Int} : NotS K H (.int i) := ⟨_, .base (.int i), by kernel_rfl⟩
theorem ns_lst {K : PySem.W.Frag} {H : Hp} {a : Addr} {xs : List V} (h : H a = some (.lst xs)) : NotS K H (.ref a) := ⟨_, .base (.lst h), by kernel_rfl⟩
theorem ns_tup {K : PySem.W.Frag} {H : Hp} {a : Addr} {xs : List V} (h : H a = some (.tup xs)) : NotS K H (.ref a) := ⟨_, .base (.tup h), by kernel_rfl⟩
theorem ns_dict {K : PySem.W.Frag} {H : Hp} {a : Addr} {kvs : List (Key × V)} (h : H a = some (.dK kvs)) : NotS K H (.ref a) := ⟨_, .base (.dK h), by kernel_rfl⟩
end Hf
namespace Hf
open PySem PySem.Spec PyProof.Rows L2
end Hf
namespace Hf
open PySem PySem.Spec PyProof.Rows L2
/-! ### lists of texts beside [] -/
/-! ### how a text with one text in a list is shown -/
/-! ### promises of the law's defs -/
end Hf
namespace Hf
open PySem PySem.Spec PyProof.Rows L2
end Hf
namespace Hf
open PySem PySem.Spec PyProof.Rows L2
theorem NotS.extN {K : PySem.W.Frag} {H H' : Hp} {v : V} (h : NotS K H v) (e : LamX.ExtN H H') : NotS K H' v := let ⟨t, a, b⟩ := h; ⟨t, TyX.extN a e, b⟩
end Hf
namespace Hf
open PySem PySem.Spec PyProof.Rows L2
end Hf
namespace Hf
open PySem PySem.Spec PyProof.Rows L2
/-! ### match of a text: constants one after the other, _ at the end -/
end Hf
namespace Hf
open PySem PySem.Spec PyProof.Rows L2
/-! ### integers written and read -/
end Hf
namespace Hf
open PySem PySem.Spec PyProof.Rows L2
/-! ### words between single signs -/
/-! ### what a text of a place tells -/
def named (s d : Int) : Bool := (decide (s = 0) && decide (d = 0)) || ((decide (s = 2) && decide (d = 1)) || (decide (s = 1) && decide (d = 0)))
end Hf
namespace Hf
open PySem PySem.Spec PyProof.Rows L2
end Hf
namespace Hf
open PySem PySem.Spec PyProof.Rows L2
end Hf
namespace Hf
open PySem PySem.Spec PyProof.Rows L2
/-! ### how many numbers stand behind a word -/
end Hf
namespace Hf
open PySem PySem.Spec PyProof.Rows L2
end Hf
namespace Hf
open PySem PySem.Spec PyProof.Rows L2
end Hf
namespace Hf
open PySem PySem.Spec PyProof.Rows L2
/-! ### places written -/
/-! ### promises of the law's defs -/
end Hf
namespace Hf
open PySem PySem.Spec PyProof.Rows L2
end Hf
namespace Hf
open PySem PySem.Spec PyProof.Rows L2
end Hf
namespace Hf
open PySem PySem.Spec PyProof.Rows L2
end Hf
namespace Hf
open PySem PySem.Spec PyProof.Rows L2
/-! ### what is written is read -/
end Hf
namespace Hf
open PySem PySem.Spec PyProof.Rows L2
end Hf
namespace Hf
open PySem PySem.Spec PyProof.Rows L2
end Hf
namespace Hf
open PySem PySem.Spec PyProof.Rows L2
/-! ### {x!s} of an object with an own __str__ -/
end Hf
namespace Hf
open PySem PySem.Spec PyProof.Rows L2
/-! ### o.f(e, ..) where f is a field that holds an instance with __call__ -/
section
variable {X : Cx} {C : Addr} {sp : Sp} {k j : Nat} {E : XK} {o e : Expr} {es : List Expr} {m : Str} {pos apos : Pos} {ta : TE} {t : TA}
theorem getmeth_fld {A : Around} {EE : Value → Shared → Prop} {pins : List (Addr × Obj)} {σ : L2.St} {H : Hp} {s : Shared} {a CX dx : Addr} {fs : List (Str × V)} {v : V} {f : Str} {pl : Sem Bool} {Q : Value × List Value → Shared → Prop} (I : L2.Inv X pins σ H s) (e : H a = some (.ins CX dx fs)) (c : Cls X.K CX) (n : NoAttr X.K CX f) (l : fs.lookup f = some v)
    (h : ∀ u s', L2.Inv X pins σ H s' → RelV v u → Q (u, []) s') : wpAny (model X.prog X.w) A (getMethod (.ref a) f pl) Q EE s := by
  obtain ⟨ox, od, J⟩ := ins_at I e
  have hg := PySem.W.plainGet_of (c.get f)
  have hcan := PySem.F.canon_object_ga
  unfold getMethod specialOf
  refine wpAny_bind (wpAny_bind (J.type.here ((PySem.W.looks_findIn I.kIn hg.1).here ?_)))
  dsimp only
  rw [hcan, if_neg (by decide)]
  refine wpAny_bind (wpAny_bind (J.type.here ((PySem.W.looks_findIn I.kIn hg.2).here ?_)))
  refine wpAny_bind (wpAny_bind (J.type.here ((PySem.W.looks_findIn I.kIn n).here ?_)))
  exact wpAny_bind (getattr_ok I e c n l fun u s' I' ru => wpAny_pure (h u s' I' ru))
def tCallF (K : PySem.W.Frag) (C : Addr) (m : Str) (sp : Sp) (E : XK) (ta : TE) (t : TA) : TE := fun σ H Q => ta σ H fun x H1 => ∃ (a CX dx : Addr) (fs : List (Str × V)) (q : Addr), x = .ref a ∧ H1 a = some (.ins CX dx fs) ∧ Cls K CX ∧ NoAttr K CX m ∧ fs.lookup m = some (.ref q) ∧
  t σ H1 fun vs H2 => (∃ dx fs, H2 q = some (.ins C dx fs)) ∧ sp (V.ref q :: vs) H2 Q E
theorem rd_callF {K : PySem.W.Frag} {σ : L2.St} {H : Hp} {Q : VK} (h : ta σ H fun x H1 => ∃ (a CX dx : Addr) (fs : List (Str × V)) (q : Addr), x = .ref a ∧ H1 a = some (.ins CX dx fs) ∧ Cls K CX ∧ NoAttr K CX m ∧ fs.lookup m = some (.ref q) ∧
  t σ H1 fun vs H2 => (∃ dx fs, H2 q = some (.ins C dx fs)) ∧ sp (V.ref q :: vs) H2 Q E) : tCallF K C m sp E ta t σ H Q := h
theorem pe_callF {pl : Sem Bool} (he : PE X o ta) (M : Met X.prog X.w X.K X.mg X.base k C "__call__" sp) (fi : ∀ g, Opr X.K C "__call__" g → PySem.W.fnIn X.K g = true) (hr : Room j X.A) (hx : Passes (L2.CX X.prog X.w) X E) (ha : PA X (e :: es) t) (hk : k ≤ j := by decide)
    (hst : starEach (e :: es) X.env = (false, eval e X.env) :: starEach es X.env := by rfl) (hpl : (backTo pos (starEach es X.env)).any (·.1) = false := by rfl)
    (ht : eval (.Call (.Attribute o m apos) (e :: es) [] pos) X.env = (do
      let ov ← eval o X.env
      standAt apos.atName
      let (f, first) ← holding [ov] (getMethod ov m pl)
      callWith pos f first (backTo pos (starEach (e :: es) X.env)) (backToKw pos (keywordEach [] X.env))) := by rfl) :
    PE X (.Call (.Attribute o m apos) (e :: es) [] pos) (tCallF X.K C m sp E ta t) := by
  obtain ⟨g, oo, F⟩ := M.opr
  have c : StX.CallO X.K C g := ⟨oo.at_, oo.fn, fi g oo⟩
  refine ⟨fun pins s σ H Q I h => ?_⟩
  refine PySem.W.methodCall_KW (pl := pl) (thn (he.run pins s σ H _ I h) fun u s1 ⟨x, H1, I1, rx, a, CX, dx, fs, q, ex, ea, cl, n, l, qq⟩ => ?_) ht
  subst ex
  obtain rfl : u = Value.ref a := rx
  refine getmeth_fld I1 ea cl n l fun u' s2 I2 ru => ?_
  obtain rfl : u' = Value.ref q := ru
  refine StX.callO_with (thn (ha.run pos pins s2 σ H1 _ I2 qq) fun us s3 ⟨vs, H2, I3, r, hi, q2⟩ => ?_) hst hpl
  have hi' : StX.InsC X H2 q C := .inr hi
  obtain ⟨ox, od, J, hd⟩ := StX.insC_at I3 hi'
  exact ⟨⟨C, ox, od, J, hd⟩, StX.run_callO c F (hr.mono hk) hx I3 hi' r q2⟩
end
end Hf
namespace Hf
open PySem PySem.Spec PyProof.Rows L2
/-! ### k33: places in bounds -/
def bdI (x : Int) : Bool := decide (-1000000000000 ≤ x) && decide (x ≤ 1000000000000)
def bd3 (s o d : Int) : Bool := bdI s && (bdI o && bdI d)
/-- of which place a value tells: an integer, or a Place -/
def PlV (K : PySem.W.Frag) (C : Addr) (H : Hp) (v : V) (s o d : Int) : Prop := (v = .int o ∧ s = 0 ∧ d = 0) ∨ ∃ p : Addr, v = .ref p ∧ NotW K H (.ref p) ∧ PlaceAt C H p s o d
def NoPl (K : PySem.W.Frag) (C : Addr) (H : Hp) (v : V) : Prop := NotW K H v ∧ ∃ t : Value, TyX K H v t ∧ PySem.W.kitOne K t (.ref C) = some false
def spAsP (K : PySem.W.Frag) (C : Addr) : Sp := fun vs H Q _ => ∃ v : V, vs = [v] ∧
  ((NoPl K C H v ∧ ∀ H', Same H H' → Q .non H') ∨ ∃ s o d : Int, PlV K C H v s o d ∧ (bd3 s o d = false → ∀ H', Same H H' → Q .non H') ∧ (bd3 s o d = true → ∀ (p : Addr) (H' : Hp), PlaceAt C H' p s o d → Same H H' → Q (.ref p) H'))
def spNeedP (K : PySem.W.Frag) (C CB : Addr) : Sp := fun vs H Q E => ∃ (v : V) (x : Str), vs = [v, .str x] ∧
  (((NoPl K C H v ∨ ∃ s o d, PlV K C H v s o d ∧ bd3 s o d = false) ∧ LetS E CB H [("part", .str x)]) ∨ ∃ s o d : Int, PlV K C H v s o d ∧ bd3 s o d = true ∧ ∀ (p : Addr) (H' : Hp), PlaceAt C H' p s o d → Same H H' → Q (.ref p) H')
def spNeedL (K : PySem.W.Frag) (CS : Addr) : Sp := fun vs H Q E => ∃ (v : V) (x : Str), vs = [v, .str x] ∧ ((LoBad K H v ∧ LetS E CS H [("part", .str x)]) ∨ ∃ n : Int, v = .int n ∧ 1 ≤ n ∧ Q .non H)
/-! ### boxes -/
abbrev P3 := Int × Int × Int
def PAt (C : Addr) (H : Hp) (q : Addr) (t : P3) : Prop := PlaceAt C H q t.1 t.2.1 t.2.2
def PvOk (K : PySem.W.Frag) (C : Addr) (H : Hp) (v : V) (t : P3) : Prop := PlV K C H v t.1 t.2.1 t.2.2 ∧ bd3 t.1 t.2.1 t.2.2 = true
def PvBad (K : PySem.W.Frag) (C : Addr) (H : Hp) (v : V) : Prop := NoPl K C H v ∨ ∃ s o d, PlV K C H v s o d ∧ bd3 s o d = false
theorem PlV.keep {K : PySem.W.Frag} {C p : Addr} {H H' : Hp} {v : V} {s o d : Int} (h : PlV K C H v s o d) (e : Keep p H H') (n : v ≠ .ref p) : PlV K C H' v s o d :=
  h.imp id fun ⟨q, ev, nw, g⟩ => ⟨q, ev, nw.keep e (by rw [← ev]; exact n), g.keep e fun z => n (by rw [ev, z])⟩
theorem NoPl.keep {K : PySem.W.Frag} {C p : Addr} {H H' : Hp} {v : V} (h : NoPl K C H v) (e : Keep p H H') (n : v ≠ .ref p) : NoPl K C H' v :=
  ⟨h.1.keep e n, let ⟨t, a, b⟩ := h.2; ⟨t, TyX.keep a e n, b⟩⟩
theorem PvBad.keep {K : PySem.W.Frag} {C p : Addr} {H H' : Hp} {v : V} (h : PvBad K C H v) (e : Keep p H H') (n : v ≠ .ref p) : PvBad K C H' v :=
  h.imp (fun z => z.keep e n) fun ⟨s, o, d, a, b⟩ => ⟨s, o, d, a.keep e n, b⟩
def Or1 (K : PySem.W.Frag) (C : Addr) (H : Hp) (v : V) (L : Prop) (k : P3 → Prop) : Prop := (PvBad K C H v ∧ L) ∨ ∃ t : P3, PvOk K C H v t ∧ k t
def LetKp (E : XK) (CB p : Addr) (H : Hp) (x : Str) : Prop := ∀ (d : Addr) (H' : Hp), H' d = some (.xd [("part", .str x)]) → Keep p H H' → E (.ref CB) (some d) H'
def bxF (q0 q1 q2 q3 : Addr) : List (Str × V) := [("x0", .ref q0), ("x1", .ref q1), ("y0", .ref q2), ("y1", .ref q3)]
theorem bf_01 : ¬ ("x0" : Str) = "x1" := by decide +kernel
theorem bf_02 : ¬ ("x0" : Str) = "y0" := by decide +kernel
theorem bf_03 : ¬ ("x0" : Str) = "y1" := by decide +kernel
theorem bf_12 : ¬ ("x1" : Str) = "y0" := by decide +kernel
theorem bf_13 : ¬ ("x1" : Str) = "y1" := by decide +kernel
theorem bf_23 : ¬ ("y0" : Str) = "y1" := by decide +kernel
theorem bx_make {a b c d : Addr} : putF "y1" (.ref d) (putF "y0" (.ref c) (putF "x1" (.ref b) (putF "x0" (.ref a) []))) = bxF a b c d := by
  rw [pf_nil, pf_miss bf_01, pf_nil, pf_miss bf_02, pf_miss bf_12, pf_nil, pf_miss bf_03, pf_miss bf_13, pf_miss bf_23, pf_nil]
  rfl
structure BxC (K : PySem.W.Frag) (mg : Str → Option Value) (C : Addr) : Prop where
  cl : Cls K C
  n1 : NoAttr K C "x0"
  n2 : NoAttr K C "x1"
  n3 : NoAttr K C "y0"
  n4 : NoAttr K C "y1"
  g : mg "Box" = some (.ref C)
  ha : PySem.W.findIn K (.ref C) "__class__" = some (some (.builtin "object.__class__"))
  hn : PySem.W.specialIn K (.builtin "object.__class__") "__get__" = some (some (.builtin "getset_descriptor.__get__"))
  tk : PySem.W.takesIn K (.builtin "object.__class__") = some true
  mo : PySem.W.mroIn K C (.type "object") = some true
def spBoxI (K : PySem.W.Frag) (C CX CB : Addr) : Sp := fun vs H Q E => ∃ (p dx : Addr) (v0 v1 v2 v3 : V), vs = [.ref p, v0, v1, v2, v3] ∧ H p = some (.ins CX dx []) ∧ v0 ≠ .ref p ∧ v1 ≠ .ref p ∧ v2 ≠ .ref p ∧ v3 ≠ .ref p ∧
  Or1 K C H v0 (LetKp E CB p H "x0") fun t0 => Or1 K C H v1 (LetKp E CB p H "x1") fun t1 => Or1 K C H v2 (LetKp E CB p H "y0") fun t2 => Or1 K C H v3 (LetKp E CB p H "y1") fun t3 =>
    ∀ (H' : Hp) (q0 q1 q2 q3 : Addr), H' p = some (.ins CX dx (bxF q0 q1 q2 q3)) → PAt C H' q0 t0 → PAt C H' q1 t1 → PAt C H' q2 t2 → PAt C H' q3 t3 → Keep p H H' → Q .non H'
theorem PAt.same {C q : Addr} {H H' : Hp} {t : P3} (g : PAt C H q t) (e : Same H H') : PAt C H' q t := PlaceAt.same g e
theorem PAt.keep {C q p : Addr} {H H' : Hp} {t : P3} (g : PAt C H q t) (e : Keep p H H') (n : q ≠ p) : PAt C H' q t := PlaceAt.keep g e n
theorem PAt.ne {C CX q p dx : Addr} {H : Hp} {t : P3} {fs : List (Str × V)} (g : PAt C H q t) (nC : C ≠ CX) (hp : H p = some (.ins CX dx fs)) : q ≠ p := fun z => by
  obtain ⟨dy, h⟩ := g
  rw [z, hp] at h
  injection h with h
  injection h with h
  exact nC h.symm
theorem PlV.same {K : PySem.W.Frag} {C : Addr} {H H' : Hp} {v : V} {s o d : Int} (h : PlV K C H v s o d) (e : Same H H') : PlV K C H' v s o d :=
  h.imp id fun ⟨q, ev, nw, g⟩ => ⟨q, ev, nw.same e, g.same e⟩
theorem NoPl.same {K : PySem.W.Frag} {C : Addr} {H H' : Hp} {v : V} (h : NoPl K C H v) (e : Same H H') : NoPl K C H' v :=
  ⟨h.1.same e, let ⟨t, a, b⟩ := h.2; ⟨t, TyX.same a e, b⟩⟩
theorem PvBad.same {K : PySem.W.Frag} {C : Addr} {H H' : Hp} {v : V} (h : PvBad K C H v) (e : Same H H') : PvBad K C H' v :=
  h.imp (fun z => z.same e) fun ⟨s, o, d, a, b⟩ => ⟨s, o, d, a.same e, b⟩
theorem PvOk.same {K : PySem.W.Frag} {C : Addr} {H H' : Hp} {v : V} {t : P3} (h : PvOk K C H v t) (e : Same H H') : PvOk K C H' v t := ⟨h.1.same e, h.2⟩
theorem Or1.to {K : PySem.W.Frag} {C : Addr} {H H' : Hp} {v : V} {L L' : Prop} {k k' : P3 → Prop} (h : Or1 K C H v L k) (e : Same H H') (hl : L → L') (hk : ∀ t, k t → k' t) : Or1 K C H' v L' k' :=
  h.imp (fun z => ⟨z.1.same e, hl z.2⟩) fun ⟨t, a, b⟩ => ⟨t, a.same e, hk t b⟩
def LiveV (H : Hp) (v : V) : Prop := ∀ x, H x = none → v ≠ .ref x
/-- a box, its four places -/
def BoxAt (C CX : Addr) (H : Hp) (p : Addr) (t0 t1 t2 t3 : P3) : Prop := ∃ dx q0 q1 q2 q3, H p = some (.ins CX dx (bxF q0 q1 q2 q3)) ∧ PAt C H q0 t0 ∧ PAt C H q1 t1 ∧ PAt C H q2 t2 ∧ PAt C H q3 t3
theorem BoxAt.same {C CX p : Addr} {H H' : Hp} {t0 t1 t2 t3 : P3} (h : BoxAt C CX H p t0 t1 t2 t3) (e : Same H H') : BoxAt C CX H' p t0 t1 t2 t3 :=
  let ⟨dx, q0, q1, q2, q3, h, a, b, c, d⟩ := h
  ⟨dx, q0, q1, q2, q3, e _ _ h, a.same e, b.same e, c.same e, d.same e⟩
def NewBox (C CX : Addr) (H : Hp) (t0 t1 t2 t3 : P3) (Q : VK) : Prop := ∀ (p : Addr) (H' : Hp), H p = none → BoxAt C CX H' p t0 t1 t2 t3 → Same H H' → Q (.ref p) H'
theorem use_box {K : PySem.W.Frag} {C CX CB : Addr} {H : Hp} {v0 v1 v2 v3 : V} {Q : VK} {E : XK} (l0 : LiveV H v0) (l1 : LiveV H v1) (l2 : LiveV H v2) (l3 : LiveV H v3)
    (h : Or1 K C H v0 (LetS E CB H [("part", .str "x0")]) fun t0 => Or1 K C H v1 (LetS E CB H [("part", .str "x1")]) fun t1 => Or1 K C H v2 (LetS E CB H [("part", .str "y0")]) fun t2 => Or1 K C H v3 (LetS E CB H [("part", .str "y1")]) fun t3 => NewBox C CX H t0 t1 t2 t3 Q) :
    MakeK CX (spBoxI K C CX CB) E Q [v0, v1, v2, v3] H := by
  intro x dx hx hdx hne
  have sm : Same H (upd (upd H dx (.own x)) x (.ins CX dx [])) := fun b u e => by
    rw [upd_ne (ne_of_none e hx), upd_ne (ne_of_none e hdx)]
    exact e
  have kl : ∀ {s : Str}, LetS E CB H [("part", .str s)] → LetKp E CB x (upd (upd H dx (.own x)) x (.ins CX dx [])) s := fun kE d H' hd kp => kE d H' hd fun b u e => kp b u (sm b u e) (ne_of_none e hx)
  refine ⟨x, dx, v0, v1, v2, v3, rfl, upd_same, l0 x hx, l1 x hx, l2 x hx, l3 x hx, ?_⟩
  exact h.to sm kl fun t0 h => h.to sm kl fun t1 h => h.to sm kl fun t2 h => h.to sm kl fun t3 k H' q0 q1 q2 q3 hp g0 g1 g2 g3 kp =>
    ⟨rfl, k x H' hx ⟨dx, q0, q1, q2, q3, hp, g0, g1, g2, g3⟩ fun b u e => kp b u (sm b u e) (ne_of_none e hx)⟩
theorem live_place {C p : Addr} {H : Hp} {s o d : Int} (g : PlaceAt C H p s o d) : LiveV H (.ref p) := fun x hx z => by
  obtain ⟨dx, h⟩ := g
  cases z
  rw [hx] at h
  cases h
/-- Box.__call__(width, height) -/
def bxV (t0 t1 t2 t3 : P3) (w h : Int) : List Int := [plv t0.1 t0.2.1 t0.2.2 w, plv t1.1 t1.2.1 t1.2.2 w, plv t2.1 t2.2.1 t2.2.2 h, plv t3.1 t3.2.1 t3.2.2 h]
def SmP (t : P3) : Prop := Sm t.1 ∧ Sm t.2.2
def spBoxAt (K : PySem.W.Frag) (C CX CS : Addr) : Sp := fun vs H Q E => ∃ (p : Addr) (t0 t1 t2 t3 : P3) (a b : V), vs = [.ref p, a, b] ∧ BoxAt C CX H p t0 t1 t2 t3 ∧
  ((LoBad K H a ∧ LetS E CS H [("part", .str "width")]) ∨ ∃ w : Int, a = .int w ∧ 1 ≤ w ∧ ((LoBad K H b ∧ LetS E CS H [("part", .str "height")]) ∨ ∃ h : Int, b = .int h ∧ 1 ≤ h ∧ Sm w ∧ Sm h ∧ SmP t0 ∧ SmP t1 ∧ SmP t2 ∧ SmP t3 ∧
    ∀ (t : Addr) (H' : Hp), H' t = some (.tup ((bxV t0 t1 t2 t3 w h).map V.int)) → Same H H' → Q (.ref t) H'))
def SpP (t : P3) : Prop := t.1.natAbs ≤ 10000000000000 ∧ t.2.1.natAbs ≤ 10000000000000 ∧ t.2.2.natAbs ≤ 10000000000000
theorem bx_x0 {a b c d : Addr} : List.lookup ("x0" : Str) (bxF a b c d) = some (.ref a) := lk_hit
theorem bx_x1 {a b c d : Addr} : List.lookup ("x1" : Str) (bxF a b c d) = some (.ref b) := (lk_miss bf_01).trans lk_hit
theorem bx_y0 {a b c d : Addr} : List.lookup ("y0" : Str) (bxF a b c d) = some (.ref c) := (lk_miss bf_02).trans ((lk_miss bf_12).trans lk_hit)
theorem bx_y1 {a b c d : Addr} : List.lookup ("y1" : Str) (bxF a b c d) = some (.ref d) := (lk_miss bf_03).trans ((lk_miss bf_13).trans ((lk_miss bf_23).trans lk_hit))
def bdP (t : P3) : Bool := bd3 t.1 t.2.1 t.2.2
theorem or_ok {K : PySem.W.Frag} {C q : Addr} {H : Hp} {t : P3} {L : Prop} {k : P3 → Prop} (nw : NotW K H (.ref q)) (g : PAt C H q t) (hb : bdP t = true) (h : k t) : Or1 K C H (.ref q) L k :=
  .inr ⟨t, ⟨.inr ⟨q, rfl, nw, g⟩, hb⟩, h⟩
theorem or_int {K : PySem.W.Frag} {C : Addr} {H : Hp} {i : Int} {L : Prop} {k : P3 → Prop} (hb : bdP (0, i, 0) = true) (h : k (0, i, 0)) : Or1 K C H (.int i) L k :=
  .inr ⟨(0, i, 0), ⟨.inl ⟨rfl, rfl, rfl⟩, hb⟩, h⟩
theorem live_int {H : Hp} {i : Int} : LiveV H (.int i) := fun x _ z => by cases z
theorem live_at {C q : Addr} {H : Hp} {t : P3} (g : PAt C H q t) : LiveV H (.ref q) := live_place g
end Hf
namespace Hf
open PySem PySem.Spec PyProof.Rows L2
/-! ### Box.whole, Box.__eq__ -/
end Hf
namespace Hf
open PySem PySem.Spec PyProof.Rows L2
/-! ### i * x by an own __rmul__ -/
/-! ### sums -/
def smF (a b c d : Int) : List (Str × V) := [("a", .int a), ("b", .int b), ("c", .int c), ("d", .int d)]
def SumAt (C : Addr) (H : Hp) (p : Addr) (a b c d : Int) : Prop := ∃ dx, H p = some (.ins C dx (smF a b c d))
theorem SumAt.same {C p : Addr} {H H' : Hp} {a b c d : Int} (h : SumAt C H p a b c d) (e : Same H H') : SumAt C H' p a b c d := let ⟨dx, h⟩ := h; ⟨dx, e _ _ h⟩
theorem SumAt.keep {C p b0 : Addr} {H H' : Hp} {a b c d : Int} (h : SumAt C H p a b c d) (e : Keep b0 H H') (n : p ≠ b0) : SumAt C H' p a b c d := let ⟨dx, h⟩ := h; ⟨dx, e _ _ h n⟩
structure SmC (K : PySem.W.Frag) (mg : Str → Option Value) (C : Addr) : Prop where
  cl : Cls K C
  n1 : NoAttr K C "a"
  n2 : NoAttr K C "b"
  n3 : NoAttr K C "c"
  n4 : NoAttr K C "d"
  g : mg "Sum" = some (.ref C)
  sf : PySem.W.selfFirst K C = true
  ne : NeC K C
  ha : PySem.W.findIn K (.ref C) "__class__" = some (some (.builtin "object.__class__"))
  hn : PySem.W.specialIn K (.builtin "object.__class__") "__get__" = some (some (.builtin "getset_descriptor.__get__"))
  tk : PySem.W.takesIn K (.builtin "object.__class__") = some true
  mo : PySem.W.mroIn K C (.type "object") = some true
  sI : PySem.W.subIn K (.ref C) (.type "int") = some false
  iM : OprI K C "mul"
theorem SmC.ty {K : PySem.W.Frag} {mg : Str → Option Value} {C : Addr} (T : SmC K mg C) {H : Hp} {p dx : Addr} {fs : List (Str × V)} (h : H p = some (.ins C dx fs)) : TyX K H (.ref p) (.ref C) := .base (.ins h T.cl T.ha T.hn T.tk T.mo)
/-! ### what a sum is written as -/
/-- of less than 1920 binary digits -/
def SpL (i : Int) : Prop := i.natAbs.log2 < 1920
/-! ### what a law hears of a kept error -/
end Hf
namespace Hf
open PySem PySem.Spec PyProof.Rows L2
/-! ### promises of a law about sums -/
/-- at most 10 ^ 40 -/
def Sm40 (i : Int) : Prop := i.natAbs ≤ 10000000000000000000000000000000000000000
theorem Sm40.add {i j : Int} (h : Sm40 i) (h' : Sm40 j) : Sm (i + j) := by
  unfold Sm40 at h h'
  constructor <;> omega
theorem Sm40.sub {i j : Int} (h : Sm40 i) (h' : Sm40 j) : Sm (i - j) := by
  unfold Sm40 at h h'
  constructor <;> omega
theorem Sm40.mul {k i : Int} (hk : k.natAbs ≤ 10000000000000000000) (h : Sm40 i) : Sm (k * i) := by
  have := Nat.mul_le_mul hk h
  rw [← Int.natAbs_mul] at this
  constructor <;> omega
theorem Sm.sp {i : Int} (h : Sm i) : SpL i := sm_log h
def FourAt (H : Hp) (t : Addr) (a b c d : Int) : Prop := H t = some (.tup [.int a, .int b, .int c, .int d])
/-- two fours and their sums, and the bag -/
structure St61 (C b0 t1 t2 p q : Addr) (a b c d a' b' c' d' : Int) (H0 H : Hp) : Prop where
  o1 : FourAt H t1 a b c d
  o2 : FourAt H t2 a' b' c' d'
  g1 : SumAt C H p a b c d
  g2 : SumAt C H q a' b' c' d'
  B : Bag H b0
  k : Keep b0 H0 H
section
variable {C b0 t1 t2 p q : Addr} {a b c d a' b' c' d' : Int} {H0 H H' : Hp}
theorem St61.same (S : St61 C b0 t1 t2 p q a b c d a' b' c' d' H0 H) (s : Same H H') : St61 C b0 t1 t2 p q a b c d a' b' c' d' H0 H' :=
  ⟨s _ _ S.o1, s _ _ S.o2, S.g1.same s, S.g2.same s, S.B.same s, S.k.trans (.of s)⟩
theorem St61.keep (S : St61 C b0 t1 t2 p q a b c d a' b' c' d' H0 H) (B' : Bag H' b0) (e : Keep b0 H H') : St61 C b0 t1 t2 p q a b c d a' b' c' d' H0 H' := by
  obtain ⟨o1, o2, ⟨dx, g1⟩, ⟨dy, g2⟩, ⟨c0, cs, x, r, s, hb, _⟩, k⟩ := S
  exact ⟨e _ _ o1 (ne_of o1 hb (by intro z; cases z)), e _ _ o2 (ne_of o2 hb (by intro z; cases z)), ⟨dx, e _ _ g1 (ne_of g1 hb (by intro z; cases z))⟩, ⟨dy, e _ _ g2 (ne_of g2 hb (by intro z; cases z))⟩, B', k.trans e⟩
end
section
variable {K : PySem.W.Frag} {mg : Str → Option Value} {C p q : Addr} {E : XK} {Q : VK} {H : Hp} {a b c d a' b' c' d' k0 : Int} {g : Int → Int → Int}
/-- a sum is no such value -/
def NoSum (K : PySem.W.Frag) (C : Addr) (H : Hp) (v : V) : Prop := ∃ t, TyX K H v t ∧ PySem.W.subIn K t (.ref C) = some false ∧ PySem.W.kitOne K t (.ref C) = some false
theorem NoSum.same {H H' : Hp} {v : V} (h : NoSum K C H v) (s : Same H H') : NoSum K C H' v := let ⟨t, a, b, c⟩ := h; ⟨t, TyX.extN a (ExtN.same s), b, c⟩
end
end Hf
namespace Hf
open PySem PySem.Spec PyProof.Rows L2
/-- the odd things of a law, in a list -/
abbrev oddV (l1 t2 d3 : Addr) : List V := [.non, .bl true, .bl false, .str "1", .ref l1, .ref t2, .ref d3]
structure Odd61 (H : Hp) (lo l1 t2 d3 : Addr) : Prop where
  e : H lo = some (.lst (oddV l1 t2 d3))
  x1 : H l1 = some (.lst [.int 1])
  x2 : H t2 = some (.tup [.int 1])
  x3 : H d3 = some (.dK [])
section
variable {H H' : Hp} {lo l1 t2 d3 b c : Addr}
theorem Odd61.ext (O : Odd61 H lo l1 t2 d3) (s : LamX.ExtN H H') : Odd61 H' lo l1 t2 d3 :=
  ⟨s _ _ O.e (fun ps z => by cases z), s _ _ O.x1 (fun ps z => by cases z), s _ _ O.x2 (fun ps z => by cases z), s _ _ O.x3 (fun ps z => by cases z)⟩
theorem Odd61.same (O : Odd61 H lo l1 t2 d3) (s : Same H H') : Odd61 H' lo l1 t2 d3 := O.ext (ExtN.same s)
theorem Odd61.keep (O : Odd61 H lo l1 t2 d3) (C : BagC H b c) (k : Keep b H H') : Odd61 H' lo l1 t2 d3 := by
  obtain ⟨cs, a, r, s, hb, _⟩ := C
  refine ⟨k _ _ O.e (ne_of O.e hb (by intro z; cases z)), k _ _ O.x1 (ne_of O.x1 hb (by intro z; cases z)), k _ _ O.x2 (ne_of O.x2 hb (by intro z; cases z)), k _ _ O.x3 (ne_of O.x3 hb (by intro z; unfold bagD at z; cases z))⟩
theorem Odd61.nw {K : PySem.W.Frag} (O : Odd61 H lo l1 t2 d3) {n : Nat} {v : V} (h : (oddV l1 t2 d3)[n]? = some v) : NotW K H v := by
  match n, h with
  | 0, h => cases h; exact nw_non
  | 1, h => cases h; exact nw_bl
  | 2, h => cases h; exact nw_bl
  | 3, h => cases h; exact nw_str
  | 4, h => cases h; exact nw_lst O.x1
  | 5, h => cases h; exact nw_tup O.x2
  | 6, h => cases h; exact nw_dict O.x3
  | n + 7, h => simp at h
end
end Hf
namespace Hf
open PySem PySem.Spec PyProof.Rows L2
/-! ### k33: places told as tuples -/
def intsP (t : P3) : List V := [.int t.1, .int t.2.1, .int t.2.2]
def TAt (H : Hp) (q : Addr) (t : P3) : Prop := H q = some (.tup (intsP t))
theorem TAt.same {H H' : Hp} {q : Addr} {t : P3} (h : TAt H q t) (e : Same H H') : TAt H' q t := e _ _ h
theorem TAt.ne {H : Hp} {q b : Addr} {t : P3} {xs : List V} (h : TAt H q t) (hb : H b = some (.lst xs)) : q ≠ b := fun z => by
  unfold TAt at h
  rw [z, hb] at h
  cases h
theorem Pen.lst {H : Hp} {b c : Addr} {k : Nat} (P : Pen H b c k) : ∃ xs, H b = some (.lst xs) := let ⟨_, _, _, h, _⟩ := P; ⟨_, h⟩
theorem TAt.pen {H H' : Hp} {q b c : Addr} {t : P3} {k : Nat} (h : TAt H q t) (P : Pen H b c k) (e : Keep b H H') : TAt H' q t := let ⟨_, hb⟩ := P.lst; e _ _ h (h.ne hb)
def NearP (t : P3) : Prop := t.1.natAbs ≤ 1000000 ∧ t.2.1.natAbs ≤ 1000000 ∧ t.2.2.natAbs ≤ 1000000
theorem NearP.sp {t : P3} (h : NearP t) : SpP t := ⟨Nat.le_trans h.1 (by decide), Nat.le_trans h.2.1 (by decide), Nat.le_trans h.2.2 (by decide)⟩
theorem bdI_of {i : Int} (h : i.natAbs ≤ 1000000000000) : bdI i = true := by
  unfold bdI
  rw [Bool.and_eq_true, decide_eq_true_eq, decide_eq_true_eq]
  omega
theorem bdP_of {t : P3} (h1 : t.1.natAbs ≤ 1000000000000) (h2 : t.2.1.natAbs ≤ 1000000000000) (h3 : t.2.2.natAbs ≤ 1000000000000) : bdP t = true := by
  show (bdI _ && (bdI _ && bdI _)) = true
  rw [bdI_of h1, bdI_of h2, bdI_of h3]
  rfl
theorem NearP.bd {t : P3} (h : NearP t) : bdP t = true := bdP_of (Nat.le_trans h.1 (by decide)) (Nat.le_trans h.2.1 (by decide)) (Nat.le_trans h.2.2 (by decide))
/-- bounds of the parts of what is asked -/
theorem SpP.smP {t : P3} (h : SpP t) : SmP t := by
  have e : (10000000000000 : Nat) ≤ 2 ^ 300 := by decide +kernel
  constructor
  · have := h.1
    constructor <;> omega
  · have := h.2.2
    constructor <;> omega
/-- a value that tells a place -/
def PvG (C : Addr) (H : Hp) (y : V) (t : P3) : Prop := (y = .int t.2.1 ∧ t.1 = 0 ∧ t.2.2 = 0) ∨ ∃ p, y = .ref p ∧ PAt C H p t
theorem PvG.same {C : Addr} {H H' : Hp} {y : V} {t : P3} (h : PvG C H y t) (e : Same H H') : PvG C H' y t := h.imp id fun ⟨p, a, g⟩ => ⟨p, a, g.same e⟩
theorem PAt.neL {C : Addr} {H : Hp} {p b : Addr} {t : P3} {xs : List V} (g : PAt C H p t) (hb : H b = some (.lst xs)) : p ≠ b := fun z => by
  obtain ⟨dx, h⟩ := g
  rw [z, hb] at h
  cases h
theorem PAt.pen {C : Addr} {H H' : Hp} {p b c : Addr} {t : P3} {k : Nat} (h : PAt C H p t) (P : Pen H b c k) (e : Keep b H H') : PAt C H' p t := let ⟨_, hb⟩ := P.lst; h.keep e (h.neL hb)
theorem PvG.pen {C : Addr} {H H' : Hp} {y : V} {b c : Addr} {t : P3} {k : Nat} (h : PvG C H y t) (P : Pen H b c k) (e : Keep b H H') : PvG C H' y t := h.imp id fun ⟨p, a, g⟩ => ⟨p, a, g.pen P e⟩
theorem PvG.put {C D : Addr} {H : Hp} {y : V} {t : P3} {zs : List V} (h : PvG C H y t) (n : H D = none ∨ ∃ us, H D = some (.lst us)) : PvG C (upd H D (.lst zs)) y t := h.imp id fun ⟨p, a, g⟩ => ⟨p, a, g.keep Keep.upd fun z => by
  obtain ⟨dx, g⟩ := g
  rw [z] at g
  rcases n with n | ⟨us, n⟩ <;> rw [n] at g <;> cases g⟩
theorem PvG.live {C : Addr} {H : Hp} {y : V} {t : P3} (h : PvG C H y t) : LiveV H y := by
  rcases h with ⟨rfl, _⟩ | ⟨p, rfl, g⟩
  · exact live_int
  · exact live_at g
theorem or_pv {K : PySem.W.Frag} {C : Addr} {H : Hp} {y : V} {t : P3} {L : Prop} {k : P3 → Prop} (nw : ∀ {H : Hp} {q : Addr} {t : P3}, PAt C H q t → NotW K H (.ref q)) (g : PvG C H y t) (hb : bdP t = true) (h : k t) : Or1 K C H y L k := by
  rcases g with ⟨rfl, h1, h2⟩ | ⟨p, rfl, g⟩
  · obtain ⟨a, i, d⟩ := t
    obtain rfl : a = 0 := h1
    obtain rfl : d = 0 := h2
    exact or_int hb h
  · exact or_ok (nw g) g hb h
/-- four tuples in a row -/
def Four4 (H : Hp) (q0 q1 q2 q3 : Addr) (t0 t1 t2 t3 : P3) : Prop := TAt H q0 t0 ∧ TAt H q1 t1 ∧ TAt H q2 t2 ∧ TAt H q3 t3
def FourT (H : Hp) (q : Addr) (t0 t1 t2 t3 : P3) : Prop := ∃ q0 q1 q2 q3 : Addr, H q = some (.tup [.ref q0, .ref q1, .ref q2, .ref q3]) ∧ Four4 H q0 q1 q2 q3 t0 t1 t2 t3
theorem Four4.same {H H' : Hp} {q0 q1 q2 q3 : Addr} {t0 t1 t2 t3 : P3} (h : Four4 H q0 q1 q2 q3 t0 t1 t2 t3) (e : Same H H') : Four4 H' q0 q1 q2 q3 t0 t1 t2 t3 := ⟨h.1.same e, h.2.1.same e, h.2.2.1.same e, h.2.2.2.same e⟩
theorem Four4.pen {H H' : Hp} {q0 q1 q2 q3 b c : Addr} {t0 t1 t2 t3 : P3} {k : Nat} (h : Four4 H q0 q1 q2 q3 t0 t1 t2 t3) (P : Pen H b c k) (e : Keep b H H') : Four4 H' q0 q1 q2 q3 t0 t1 t2 t3 := ⟨h.1.pen P e, h.2.1.pen P e, h.2.2.1.pen P e, h.2.2.2.pen P e⟩
theorem FourT.same {H H' : Hp} {q : Addr} {t0 t1 t2 t3 : P3} (h : FourT H q t0 t1 t2 t3) (e : Same H H') : FourT H' q t0 t1 t2 t3 := let ⟨q0, q1, q2, q3, a, f⟩ := h; ⟨q0, q1, q2, q3, e _ _ a, f.same e⟩
theorem FourT.pen {H H' : Hp} {q b c : Addr} {t0 t1 t2 t3 : P3} {k : Nat} (h : FourT H q t0 t1 t2 t3) (P : Pen H b c k) (e : Keep b H H') : FourT H' q t0 t1 t2 t3 := by
  obtain ⟨q0, q1, q2, q3, a, f⟩ := h
  obtain ⟨xs, hb⟩ := id P.lst
  exact ⟨q0, q1, q2, q3, e _ _ a (fun z => by rw [z, hb] at a; cases a), f.pen P e⟩
def spLPlT : Sp := fun vs H Q _ => ∃ (b c : Addr) (k : Nat), vs = [.ref b] ∧ Pen H b c (k + 2) ∧ ∀ (q : Addr) (t : P3) (H' : Hp), TAt H' q t → NearP t → Pen H' b c k → Keep b H H' → Q (.ref q) H'
def spLAtT : Sp := fun vs H Q _ => ∃ (q : Addr) (t : P3) (n : Int), vs = [.ref q, .int n] ∧ TAt H q t ∧ SmP t ∧ Sm n ∧ 1 ≤ n ∧ Q (.int (plv t.1 t.2.1 t.2.2 n)) H
def spLBPl (C : Addr) : Sp := fun vs H Q _ => ∃ (b c q : Addr) (k : Nat) (t : P3), vs = [.ref b, .ref q] ∧ Pen H b c (k + 1) ∧ TAt H q t ∧ ∀ (y : V) (H' : Hp), PvG C H' y t → Pen H' b c k → Keep b H H' → Q y H'
def spLBBx (C CX : Addr) : Sp := fun vs H Q _ => ∃ (b c q : Addr) (k : Nat) (t0 t1 t2 t3 : P3), vs = [.ref b, .ref q] ∧ Pen H b c (k + 4) ∧ FourT H q t0 t1 t2 t3 ∧ bdP t0 = true ∧ bdP t1 = true ∧ bdP t2 = true ∧ bdP t3 = true ∧
  ∀ (p : Addr) (H' : Hp), BoxAt C CX H' p t0 t1 t2 t3 → Pen H' b c k → Keep b H H' → Q (.ref p) H'
def spLEnds : Sp := fun vs H Q _ => ∃ (q : Addr) (t0 t1 t2 t3 : P3) (w h : Int), vs = [.ref q, .int w, .int h] ∧ FourT H q t0 t1 t2 t3 ∧ SmP t0 ∧ SmP t1 ∧ SmP t2 ∧ SmP t3 ∧ Sm w ∧ Sm h ∧ 1 ≤ w ∧ 1 ≤ h ∧
  ∀ (t : Addr) (H' : Hp), H' t = some (.tup ((bxV t0 t1 t2 t3 w h).map V.int)) → Same H H' → Q (.ref t) H'
/-- sizes to be asked -/
def SizesAt (H : Hp) (l : Addr) (zs : List (Int × Int)) : Prop := ∃ ts : List Addr, H l = some (.lst (ts.map V.ref)) ∧ F2 (fun a z => H a = some (.tup [.int z.1, .int z.2])) ts zs
/-- [e for ..] that draws and makes: what stands of the items so far -/
theorem lc_accW {J : It} {n : Nat} {G0 : Hp → Prop} {Y : Nat → Hp → V → Hp → Prop} (w : Walk J n G0 Y) {g : TG} {te : TE} {vs : List Nat} {σ : L2.St} {H : Hp} {Q : VK} {b : Addr} (hb : ∃ o, H b = some o) (Z : List V → Hp → Prop) (hn : n ≤ 1000) (z0 : Z [] H) (hG : ∀ ys H', Z ys H' → G0 H') (hY : ∀ j H1 x H2, Y j H1 x H2 → Same H1 H2)
    (put : ∀ (D : Addr) (H' : Hp) (ys zs : List V), H D = none → (H' D = none ∨ ∃ us, H' D = some (.lst us)) → Z ys H' → Z ys (upd H' D (.lst zs)))
    (hev : ∀ (j : Nat) (x : V) (ys : List V) (H1 H2 : Hp) (R : VK), j < n → ys.length = j → Z ys H1 → Y j H1 x H2 → (∀ (y : V) (H3 : Hp), Z (ys ++ [y]) H3 → Keep b H2 H3 → R y H3) → g x (wipe σ vs) H2 fun σ2 H3 => wipe σ2 vs = wipe σ vs ∧ te σ2 H3 R)
    (k : ∀ (D : Addr) (ys : List V) (H' : Hp), H D = none → H' D = some (.lst ys) → ys.length = n → Z ys H' → Q (.ref D) H') : LcK g tYes te vs σ Q J H := by
  intro D hD
  have nb : D ≠ b := by
    obtain ⟨o, hb⟩ := hb
    exact (ne_of_none hb hD).symm
  refine lc_it w (g := g) (tt := tYes) (te := te) (vs := vs) (σ := σ) (Qd := fun H => Q (.ref D) H) (fun j H' => ∃ ys : List V, H' D = some (.lst ys) ∧ ys.length = j ∧ Z ys H') ⟨[], upd_same, rfl, put D H [] [] hD (.inl hD) z0⟩ (fun j H' _ ⟨ys, _, _, z⟩ => hG ys H' z) ?_ ?_
  · rintro j x H1 H2 hj ⟨ys, e, l, z⟩ y
    refine hev j x ys H1 H2 (fun v H4 => ∃ acc, H4 D = some (.lst acc) ∧ acc.length < sizeLine ∧ ∃ ys' : List V, (upd H4 D (.lst (acc ++ [v]))) D = some (.lst ys') ∧ ys'.length = j + 1 ∧ Z ys' (upd H4 D (.lst (acc ++ [v])))) hj l z y fun v H3 z3 k3 => ?_
    have e3 := k3 _ _ (hY j H1 x H2 y _ _ e) nb
    refine ⟨ys, e3, by rw [l]; exact small1000 (by omega), ys ++ [v], upd_same, by rw [List.length_append, l]; rfl, put D H3 _ _ hD (.inr ⟨_, e3⟩) z3⟩
  · rintro H1 ⟨ys, e, l, z⟩
    exact k D ys H1 hD e l z
end Hf
namespace Hf
open PySem PySem.Spec PyProof.Rows L2
/-! ### what is shown -/
end Hf
namespace Hf
open PySem PySem.Spec PyProof.Rows L2 LamX
end Hf
namespace Hf
open PySem PySem.Spec PyProof.Rows L2
/-! ### data with lists, tuples, small dicts -/
mutual
inductive Dz (H : Hp) : V → PyData → Prop
  | non : Dz H .non .none
  | bl (b : Bool) : Dz H (.bl b) (.bool b)
  | int (i : Int) : Dz H (.int i) (.int i)
  | str (x : Str) : Dz H (.str x) (.str x)
  | lst {a : Addr} {xs : List V} {ds : List PyData} : H a = some (.lst xs) → DzAll H xs ds → Dz H (.ref a) (.list ds)
  | tup {a : Addr} {xs : List V} {ds : List PyData} : H a = some (.tup xs) → DzAll H xs ds → Dz H (.ref a) (.tuple ds)
  | dic {a : Addr} : H a = some (.dK []) → Dz H (.ref a) (.dict [])
  | dic1 {a : Addr} {x : Str} {i : Int} : H a = some (.dK [(.inr x, .int i)]) → Dz H (.ref a) (.dict [(.str x, .int i)])
inductive DzAll (H : Hp) : List V → List PyData → Prop
  | nil : DzAll H [] []
  | cons {v : V} {vs : List V} {d : PyData} {ds : List PyData} : Dz H v d → DzAll H vs ds → DzAll H (v :: vs) (d :: ds)
end
end Hf
namespace Hf
open PySem PySem.Spec PyProof.Rows L2
/-! ### rows that are none: what a picture is refused for -/
def txtOf : V → Option (List Nat)
  | .str s => some s.cps.toList
  | _ => none
def lenV (x : V) : Nat := match txtOf x with
  | some cs => cs.length
  | none => 0
/-- an item: no text, or a text of few signs -/
def ItemV (K : PySem.W.Frag) (H : Hp) (x : V) : Prop := (NotS K H x ∧ txtOf x = none) ∨ ∃ cs : List Nat, x = tv cs ∧ Pg 250 cs
theorem ItemV.same {K : PySem.W.Frag} {H H' : Hp} {x : V} (h : ItemV K H x) (e : Same H H') : ItemV K H' x := h.imp (fun z => ⟨z.1.same e, z.2⟩) id
theorem ItemV.extN {K : PySem.W.Frag} {H H' : Hp} {x : V} (h : ItemV K H x) (e : LamX.ExtN H H') : ItemV K H' x := h.imp (fun z => ⟨z.1.extN e, z.2⟩) id
def RowsV (K : PySem.W.Frag) (H : Hp) (l : Addr) (xs : List V) : Prop := SqL K H l xs ∨ SqT K H l xs
theorem RowsV.same {K : PySem.W.Frag} {H H' : Hp} {l : Addr} {xs : List V} (h : RowsV K H l xs) (e : Same H H') : RowsV K H' l xs := h.imp (fun z => e.seq z) (fun z => same_tup e z)
/-- a value that is neither a list nor a tuple -/
inductive NoSeq (H : Hp) : V → Prop
  | non : NoSeq H .non
  | bl (b : Bool) : NoSeq H (.bl b)
  | int (i : Int) : NoSeq H (.int i)
  | str (x : Str) : NoSeq H (.str x)
  | dic {a : Addr} {kvs : List (Key × V)} : H a = some (.dK kvs) → NoSeq H (.ref a)
theorem NoSeq.same {H H' : Hp} {v : V} (h : NoSeq H v) (e : Same H H') : NoSeq H' v := by
  cases h with
  | non => exact .non
  | bl b => exact .bl b
  | int i => exact .int i
  | str x => exact .str x
  | dic h => exact .dic (e _ _ h)
theorem NoSeq.extN {H H' : Hp} {v : V} (h : NoSeq H v) (e : LamX.ExtN H H') : NoSeq H' v := by
  cases h with
  | non => exact .non
  | bl b => exact .bl b
  | int i => exact .int i
  | str x => exact .str x
  | dic h => exact .dic (e _ _ h (fun ps z => by cases z))
/-! ### methods that refuse -/
/-- a value that is no axis -/
def NoAxis (K : PySem.W.Frag) (H : Hp) (v : V) : Prop := NotS K H v ∨ ∃ x : Str, v = .str x ∧ x ≠ "across" ∧ x ≠ "down"
end Hf
namespace Hf
open PySem PySem.Spec PyProof.Rows L2
mutual
theorem Dz.extN {H H' : Hp} (e : LamX.ExtN H H') : ∀ (d : PyData) (v : V), Dz H v d → Dz H' v d
  | .none, _, h => by cases h; exact .non
  | .bool b, _, h => by cases h; exact .bl b
  | .int i, _, h => by cases h; exact .int i
  | .str x, _, h => by cases h; exact .str x
  | .list ds, _, h => by
    cases h with
    | lst a b => exact .lst (e _ _ a (fun ps z => by cases z)) (Dz.extNs e ds _ b)
  | .tuple ds, _, h => by
    cases h with
    | tup a b => exact .tup (e _ _ a (fun ps z => by cases z)) (Dz.extNs e ds _ b)
  | .dict kvs, _, h => by
    cases h with
    | dic a => exact .dic (e _ _ a (fun ps z => by cases z))
    | dic1 a => exact .dic1 (e _ _ a (fun ps z => by cases z))
theorem Dz.extNs {H H' : Hp} (e : LamX.ExtN H H') : ∀ (ds : List PyData) (vs : List V), DzAll H vs ds → DzAll H' vs ds
  | [], _, h => by cases h; exact .nil
  | d :: ds, _, h => by
    cases h with
    | cons a b => exact .cons (Dz.extN e d _ a) (Dz.extNs e ds _ b)
end
theorem Dz.same {H H' : Hp} {v : V} {d : PyData} (h : Dz H v d) (e : Same H H') : Dz H' v d := Dz.extN (fun a o z _ => e a o z) d v h
/-- few signs when shown -/
structure SzD (n k : Nat) (d : PyData) : Prop where
  sh : d.showable = true
  dp : d.depth ≤ k
  ln : d.shown.length ≤ n
theorem SzD.le {n k m j : Nat} {d : PyData} (h : SzD n k d) (a : n ≤ m) (b : k ≤ j) : SzD m j d := ⟨h.sh, Nat.le_trans h.dp b, Nat.le_trans h.ln a⟩
theorem szs_all {n k : Nat} : ∀ {ds : List PyData}, (∀ d ∈ ds, SzD n k d) → PyData.showableAll ds = true ∧ PyData.depthAll ds ≤ k ∧ ((PyData.shownAll ds).map (·.length)).sum ≤ ds.length * n ∧ (PyData.shownAll ds).length = ds.length
  | [], _ => ⟨by simp [PyData.showableAll], by simp [PyData.depthAll], by simp [PyData.shownAll], by simp [PyData.shownAll]⟩
  | d :: ds, h => by
    obtain ⟨a, b, c, e⟩ := szs_all (ds := ds) fun x hx => h x (List.mem_cons_of_mem _ hx)
    have hd := h d List.mem_cons_self
    refine ⟨by rw [PyData.showableAll, hd.sh, a]; rfl, by rw [PyData.depthAll]; have := hd.dp; omega, ?_, by rw [PyData.shownAll, List.length_cons, List.length_cons, e]⟩
    rw [PyData.shownAll, List.map_cons, List.sum_cons, List.length_cons, Nat.succ_mul]
    have := hd.ln
    omega
theorem SzD.list {n k m : Nat} {ds : List PyData} (h : ∀ d ∈ ds, SzD n k d) (hm : ds.length ≤ m) : SzD (m * n + 2 * m + 3) (k + 1) (.list ds) := by
  obtain ⟨a, b, c, e⟩ := szs_all h
  refine ⟨by rw [PyData.showable]; exact a, by rw [PyData.depth]; omega, ?_⟩
  rw [PyData.shown]
  have l := listText_len_le (PyData.shownAll ds)
  have := Nat.mul_le_mul_right n hm
  omega
theorem SzD.tuple {n k m : Nat} {ds : List PyData} (h : ∀ d ∈ ds, SzD n k d) (hm : ds.length ≤ m) : SzD (m * n + 2 * m + 3) (k + 1) (.tuple ds) := by
  obtain ⟨a, b, c, e⟩ := szs_all h
  refine ⟨by rw [PyData.showable]; exact a, by rw [PyData.depth]; omega, ?_⟩
  rw [PyData.shown]
  have l := tupleText_len_le (PyData.shownAll ds)
  have := Nat.mul_le_mul_right n hm
  omega
theorem SzD.txt {N : Nat} {cs : List Nat} (g : Pg N cs) : SzD (10 * N + 2) 0 (.str (SX.S cs)) := by
  refine ⟨by simp [PyData.showable], by simp [PyData.depth], ?_⟩
  have l2 := PySem.StrLaws.reprText_len (SX.S cs) (fun c hc => by
    have := g.a c hc
    have : (16 : Nat) ^ 8 = 4294967296 := by decide
    omega)
  have l4 : (reprText (SX.S cs)).length ≤ 10 * (SX.S cs).length + 2 := l2
  rw [SX.S_len cs] at l4
  have := g.l
  rw [PyData.shown]
  omega
/-! ### items of rows -/
inductive ItD (H : Hp) : V → PyData → Prop
  | txt (cs : List Nat) : Pg 250 cs → ItD H (tv cs) (.str (SX.S cs))
  | non : ItD H .non .none
  | bl (b : Bool) : ItD H (.bl b) (.bool b)
  | five : ItD H (.int 5) (.int 5)
  | lstS {a : Addr} {n : Nat} : H a = some (.lst (List.replicate n (tv [48]))) → n ≤ 201 → ItD H (.ref a) (.list (List.replicate n (.str (SX.S [48]))))
  | tupS {a : Addr} {n : Nat} : H a = some (.tup (List.replicate n (tv [48]))) → n ≤ 201 → ItD H (.ref a) (.tuple (List.replicate n (.str (SX.S [48]))))
  | dic {a : Addr} : H a = some (.dK []) → ItD H (.ref a) (.dict [])
theorem ItD.imp {H H' : Hp} {v : V} {d : PyData} (h : ItD H v d) (hk : ∀ a o, H a = some o → v = .ref a → H' a = some o) : ItD H' v d := by
  cases h with
  | txt cs g => exact .txt cs g
  | non => exact .non
  | bl b => exact .bl b
  | five => exact .five
  | lstS h n => exact .lstS (hk _ _ h rfl) n
  | tupS h n => exact .tupS (hk _ _ h rfl) n
  | dic h => exact .dic (hk _ _ h rfl)
theorem ItD.same {H H' : Hp} {v : V} {d : PyData} (h : ItD H v d) (e : Same H H') : ItD H' v d := h.imp fun a o z _ => e _ _ z
theorem ItD.keep {H H' : Hp} {v : V} {d : PyData} {b : Addr} (h : ItD H v d) (e : Keep b H H') (n : v ≠ .ref b) : ItD H' v d := h.imp fun a o z ev => e _ _ z fun q => n (by rw [ev, q])
theorem ItD.sz {H : Hp} {v : V} {d : PyData} (h : ItD H v d) : SzD 3000 1 d := by
  have one : ∀ {n : Nat}, ∀ d ∈ List.replicate n (PyData.str (SX.S [48])), SzD 12 0 d := fun d hd => by
    rw [(List.mem_replicate.mp hd).2]
    exact SzD.txt (N := 1) ⟨by decide, by decide⟩
  cases h with
  | txt cs g => exact (SzD.txt g).le (by decide) (by decide)
  | non => exact ⟨by decide +kernel, by decide +kernel, by decide +kernel⟩
  | bl b => cases b <;> exact ⟨by decide +kernel, by decide +kernel, by decide +kernel⟩
  | five => exact ⟨by decide +kernel, by decide +kernel, by decide +kernel⟩
  | lstS h n => exact (SzD.list (m := 201) one (by rw [List.length_replicate]; exact n)).le (by decide) (by decide)
  | tupS h n => exact (SzD.tuple (m := 201) one (by rw [List.length_replicate]; exact n)).le (by decide) (by decide)
  | dic h => exact ⟨by decide +kernel, by decide +kernel, by decide +kernel⟩
theorem ItD.item {K : PySem.W.Frag} {H : Hp} {v : V} {d : PyData} (h : ItD H v d) : ItemV K H v := by
  cases h with
  | txt cs g => exact .inr ⟨cs, rfl, g⟩
  | non => exact .inl ⟨ns_non, rfl⟩
  | bl b => exact .inl ⟨ns_bl, rfl⟩
  | five => exact .inl ⟨ns_int, rfl⟩
  | lstS h n => exact .inl ⟨ns_lst h, rfl⟩
  | tupS h n => exact .inl ⟨ns_tup h, rfl⟩
  | dic h => exact .inl ⟨ns_dict h, rfl⟩
/-! ### what is handed -/
/-- a value of any kind, its items where it is a list or a tuple, and its data -/
def HandV (K : PySem.W.Frag) (H : Hp) (v : V) (o : Option (List V)) (d : PyData) : Prop := Dz H v d ∧ SzD 900000 2 d ∧
  ((o = none ∧ NoSeq H v) ∨ ∃ (l : Addr) (xs : List V), o = some xs ∧ v = .ref l ∧ (H l = some (.lst xs) ∨ H l = some (.tup xs)) ∧ xs.length ≤ 201 ∧ ∀ x ∈ xs, ItemV K H x)
theorem HandV.extN {K : PySem.W.Frag} {H H' : Hp} {v : V} {o : Option (List V)} {d : PyData} (h : HandV K H v o d) (e : LamX.ExtN H H') : HandV K H' v o d := by
  obtain ⟨a, b, c⟩ := h
  refine ⟨Dz.extN e _ _ a, b, c.imp (fun z => ⟨z.1, z.2.extN e⟩) fun ⟨l, xs, h1, h2, h3, h4, h5⟩ => ⟨l, xs, h1, h2, h3.imp (fun z => e _ _ z (fun ps z => by cases z)) (fun z => e _ _ z (fun ps z => by cases z)), h4, fun x hx => (h5 x hx).extN e⟩⟩
theorem HandV.same {K : PySem.W.Frag} {H H' : Hp} {v : V} {o : Option (List V)} {d : PyData} (h : HandV K H v o d) (e : Same H H') : HandV K H' v o d := h.extN fun a o z _ => e a o z
end Hf
namespace Hf
open PySem PySem.Spec PyProof.Rows L2
/-! ### a tuple once, or many times -/
theorem Odd.sz {K : PySem.W.Frag} {H : Hp} {v : V} {d : PyData} (o : Odd H v d) : SzD 2000 1 d := by
  obtain ⟨a, b, c, _⟩ := odd_shown (K := K) o
  exact ⟨a, by omega, by omega⟩
theorem NoAxis.extN {K : PySem.W.Frag} {H H' : Hp} {v : V} (h : NoAxis K H v) (e : LamX.ExtN H H') : NoAxis K H' v := h.imp (fun z => z.extN e) id
theorem NoAxis.same {K : PySem.W.Frag} {H H' : Hp} {v : V} (h : NoAxis K H v) (e : Same H H') : NoAxis K H' v := h.imp (fun z => z.same e) id
end Hf
namespace Hf
open PySem PySem.Spec PyProof.Rows L2
/-! ### k33: what is heard -/
/-! ### heaps the same but for the pen and the tables -/
def KN (b : Addr) (H H' : Hp) : Prop := ∀ a o, H a = some o → (∀ ps, o ≠ .tbl ps) → a ≠ b → H' a = some o
theorem KN.refl {b : Addr} {H : Hp} : KN b H H := fun _ _ h _ _ => h
theorem KN.of {b : Addr} {H H' : Hp} (k : Keep b H H') : KN b H H' := fun a o h _ n => k a o h n
theorem KN.ofS {b : Addr} {H H' : Hp} (k : Same H H') : KN b H H' := fun a o h _ _ => k a o h
theorem KN.ofN {b : Addr} {H H' : Hp} (k : LamX.ExtN H H') : KN b H H' := fun a o h n _ => k a o h n
theorem KN.trans {b : Addr} {H H1 H2 : Hp} (k : KN b H H1) (m : KN b H1 H2) : KN b H H2 := fun a o h n ne => m a o (k a o h n ne) n ne
theorem TAt.extN {H H' : Hp} {q : Addr} {t : P3} (h : TAt H q t) (e : LamX.ExtN H H') : TAt H' q t := e _ _ h fun ps z => by cases z
theorem Four4.extN {H H' : Hp} {q0 q1 q2 q3 : Addr} {t0 t1 t2 t3 : P3} (h : Four4 H q0 q1 q2 q3 t0 t1 t2 t3) (e : LamX.ExtN H H') : Four4 H' q0 q1 q2 q3 t0 t1 t2 t3 := ⟨h.1.extN e, h.2.1.extN e, h.2.2.1.extN e, h.2.2.2.extN e⟩
theorem PAt.extN {C : Addr} {H H' : Hp} {p : Addr} {t : P3} (h : PAt C H p t) (e : LamX.ExtN H H') : PAt C H' p t := PlaceAt.extN h e
theorem PvG.extN {C : Addr} {H H' : Hp} {y : V} {t : P3} (h : PvG C H y t) (e : LamX.ExtN H H') : PvG C H' y t := h.imp id fun ⟨p, a, g⟩ => ⟨p, a, g.extN e⟩
theorem BoxAt.extN {C CX : Addr} {H H' : Hp} {p : Addr} {t0 t1 t2 t3 : P3} (h : BoxAt C CX H p t0 t1 t2 t3) (e : LamX.ExtN H H') : BoxAt C CX H' p t0 t1 t2 t3 :=
  let ⟨dx, q0, q1, q2, q3, a, h0, h1, h2, h3⟩ := h; ⟨dx, q0, q1, q2, q3, e _ _ a (fun ps z => by cases z), h0.extN e, h1.extN e, h2.extN e, h3.extN e⟩
theorem BoxAt.pen {C CX : Addr} {H H' : Hp} {p b c : Addr} {k : Nat} {t0 t1 t2 t3 : P3} (h : BoxAt C CX H p t0 t1 t2 t3) (P : Pen H b c k) (e : Keep b H H') : BoxAt C CX H' p t0 t1 t2 t3 := by
  obtain ⟨dx, q0, q1, q2, q3, a, h0, h1, h2, h3⟩ := h
  obtain ⟨xs, hb⟩ := id P.lst
  exact ⟨dx, q0, q1, q2, q3, e _ _ a (fun z => by rw [z, hb] at a; cases a), h0.pen P e, h1.pen P e, h2.pen P e, h3.pen P e⟩
theorem SizesAt.same {H H' : Hp} {l : Addr} {zs : List (Int × Int)} (h : SizesAt H l zs) (e : Same H H') : SizesAt H' l zs := let ⟨ts, a, f⟩ := h; ⟨ts, e _ _ a, f.imp fun _ _ z => e _ _ z⟩
theorem SizesAt.kn {H H' : Hp} {l b c : Addr} {k : Nat} {zs : List (Int × Int)} (h : SizesAt H l zs) (P : Pen H b c k) (n : l ≠ b) (e : KN b H H') : SizesAt H' l zs := by
  obtain ⟨ts, a, f⟩ := h
  obtain ⟨xs, hb⟩ := id P.lst
  exact ⟨ts, e _ _ a (fun ps z => by cases z) n, f.imp fun a z hz => e _ _ hz (fun ps z => by cases z) fun x => by rw [x, hb] at hz; cases hz⟩
end Hf
namespace Hf
open PySem PySem.Spec PyProof.Rows L2
/-! ### k33: odd values -/
inductive OddR (H : Hp) : V → Prop
  | non : OddR H .non
  | bl (b : Bool) : OddR H (.bl b)
  | str (x : Str) : OddR H (.str x)
  | lst {a : Addr} {xs : List V} : H a = some (.lst xs) → OddR H (.ref a)
  | tup {a : Addr} {xs : List V} : H a = some (.tup xs) → OddR H (.ref a)
  | dic {a : Addr} : H a = some (.dK []) → OddR H (.ref a)
section
variable {K : PySem.W.Frag} {C b c : Addr} {H H' : Hp} {v : V}
theorem OddR.nw (h : OddR H v) : NotW K H v := by
  cases h with
  | non => exact nw_non
  | bl b => exact nw_bl
  | str x => exact nw_str
  | lst h => exact nw_lst h
  | tup h => exact nw_tup h
  | dic h => exact nw_dict h
theorem OddR.extN (h : OddR H v) (e : LamX.ExtN H H') : OddR H' v := by
  cases h with
  | non => exact .non
  | bl b => exact .bl b
  | str x => exact .str x
  | lst h => exact .lst (e _ _ h fun ps z => by cases z)
  | tup h => exact .tup (e _ _ h fun ps z => by cases z)
  | dic h => exact .dic (e _ _ h fun ps z => by cases z)
theorem OddR.same (h : OddR H v) (e : Same H H') : OddR H' v := h.extN (ExtN.same e)
theorem OddR.keep (h : OddR H v) (e : Keep b H H') (n : v ≠ .ref b) : OddR H' v := by
  cases h with
  | non => exact .non
  | bl b => exact .bl b
  | str x => exact .str x
  | lst h => exact .lst (e _ _ h fun z => n (by rw [z]))
  | tup h => exact .tup (e _ _ h fun z => n (by rw [z]))
  | dic h => exact .dic (e _ _ h fun z => n (by rw [z]))
theorem OddR.live (h : OddR H v) : LiveV H v := fun x hx z => by
  subst z
  cases h with
  | lst h => rw [hx] at h; cases h
  | tup h => rw [hx] at h; cases h
  | dic h => rw [hx] at h; cases h
/-- no size -/
def LoR (H : Hp) (v : V) : Prop := OddR H v ∨ ∃ i : Int, v = .int i ∧ i < 1
theorem LoR.extN (h : LoR H v) (e : LamX.ExtN H H') : LoR H' v := h.imp (fun z => z.extN e) id
theorem LoR.same (h : LoR H v) (e : Same H H') : LoR H' v := h.extN (ExtN.same e)
/-- what stands while wrong values are asked -/
structure StR (C CX : Addr) (T : List (Addr × Str)) (H0 H : Hp) (b c p : Addr) (k : Nat) (t0 t1 t2 t3 : P3) : Prop where
  P : Pen H b c k
  hT : LamX.Tabs T H
  g : BoxAt C CX H p t0 t1 t2 t3
  kn : KN b H0 H
theorem StR.same {CX p : Addr} {T : List (Addr × Str)} {H0 : Hp} {k : Nat} {t0 t1 t2 t3 : P3} (S : StR C CX T H0 H b c p k t0 t1 t2 t3) (e : Same H H') : StR C CX T H0 H' b c p k t0 t1 t2 t3 := ⟨S.P.same e, S.hT.ext e, S.g.same e, S.kn.trans (KN.ofS e)⟩
theorem StR.pen {CX p : Addr} {T : List (Addr × Str)} {H0 : Hp} {k m : Nat} {t0 t1 t2 t3 : P3} (S : StR C CX T H0 H b c p k t0 t1 t2 t3) (e : Keep b H H') (P' : Pen H' b c m) : StR C CX T H0 H' b c p m t0 t1 t2 t3 := ⟨P', tabs_pen S.hT S.P e, S.g.pen S.P e, S.kn.trans (KN.of e)⟩
end
end Hf
namespace Hf
open PySem PySem.Spec PyProof.Rows L2
/-! ### k33: places at their bounds -/
theorem TAt.put {H : Hp} {q D : Addr} {t : P3} {zs : List V} (h : TAt H q t) (n : H D = none ∨ ∃ us, H D = some (.lst us)) : TAt (upd H D (.lst zs)) q t := by
  unfold TAt at h ⊢
  rw [upd_ne]
  · exact h
  · intro z
    rw [z] at h
    rcases n with n | ⟨us, n⟩ <;> rw [n] at h <;> cases h
theorem PAt.put {C : Addr} {H : Hp} {q D : Addr} {t : P3} {zs : List V} (h : PAt C H q t) (n : H D = none ∨ ∃ us, H D = some (.lst us)) : PAt C (upd H D (.lst zs)) q t := h.keep Keep.upd fun z => by
  obtain ⟨dx, g⟩ := h
  rw [z] at g
  rcases n with n | ⟨us, n⟩ <;> rw [n] at g <;> cases g
end Hf
namespace Hf
open PySem PySem.Spec PyProof.Rows L2
/-! ### C(x=.., y=..) in any order -/
/-! ### boxes compared -/
section
variable {K : PySem.W.Frag} {C CX : Addr} {mg : Str → Option Value} {H : Hp} {E : XK} {Q : VK} {p q : Addr} {t0 t1 t2 t3 u0 u1 u2 u3 : P3}
theorem BoxAt.ty (B0 : BxC K mg CX) (g : BoxAt C CX H p t0 t1 t2 t3) : TyX K H (.ref p) (.ref CX) := by
  obtain ⟨dx, q0, q1, q2, q3, h, _⟩ := g
  exact .base (.ins h B0.cl B0.ha B0.hn B0.tk B0.mo)
/-- what stands in a turn of the law -/
structure StW (C CX : Addr) (T : List (Addr × Str)) (H : Hp) (b c l q bx : Addr) (k : Nat) (t0 t1 t2 t3 : P3) (zs : List (Int × Int)) : Prop where
  P : Pen H b c k
  hT : LamX.Tabs T H
  sz : SizesAt H l zs
  f : FourT H q t0 t1 t2 t3
  g : BoxAt C CX H bx t0 t1 t2 t3
theorem SizesAt.pen {H H' : Hp} {l b c : Addr} {k : Nat} {zs : List (Int × Int)} (h : SizesAt H l zs) (P : Pen H b c k) (n : l ≠ b) (e : Keep b H H') : SizesAt H' l zs := h.kn P n (KN.of e)
theorem StW.same {T : List (Addr × Str)} {H' : Hp} {b c l bx : Addr} {k : Nat} {zs : List (Int × Int)} (S : StW C CX T H b c l q bx k t0 t1 t2 t3 zs) (e : Same H H') : StW C CX T H' b c l q bx k t0 t1 t2 t3 zs := ⟨S.P.same e, S.hT.ext e, S.sz.same e, S.f.same e, S.g.same e⟩
theorem StW.pen {T : List (Addr × Str)} {H' : Hp} {b c l bx : Addr} {k m : Nat} {zs : List (Int × Int)} (S : StW C CX T H b c l q bx k t0 t1 t2 t3 zs) (n : l ≠ b) (e : Keep b H H') (P' : Pen H' b c m) : StW C CX T H' b c l q bx m t0 t1 t2 t3 zs := ⟨P', tabs_pen S.hT S.P e, S.sz.pen S.P n e, S.f.pen S.P e, S.g.pen S.P e⟩
end
end Hf
namespace Hf
open PySem PySem.Spec PyProof.Rows L2
theorem kitOne_T {K : PySem.W.Frag} {D : Addr} {T : String} {b : Bool} (m : PySem.W.kitMeta T = true) (s : PySem.W.subIn K (.ref D) (.type T) = some b) : PySem.W.kitOne K (.ref D) (.type T) = some b := by
  have e : (Value.ref D == Value.type T) = false := Bool.eq_false_iff.mpr fun q => by cases beq_iff_eq.mp q
  unfold PySem.W.kitOne PySem.W.kitCls
  rw [e, if_neg Bool.false_ne_true]
  show (if PySem.W.kitMeta T = true then PySem.W.subIn K (.ref D) (.type T) else none) = some b
  rw [if_pos m]
  exact s
theorem meta_int : PySem.W.kitMeta "int" = true := by decide +kernel
theorem meta_bool : PySem.W.kitMeta "bool" = true := by decide +kernel
end Hf
namespace Hf
open PySem PySem.Spec PyProof.Rows L2
/-! ### a def that says super(): its statements stand right in its frame -/
structure PWs (X : Cx) (body st : List Stmt) (t : TS) : Prop where
  run : ∀ (pins : List (Addr × Obj)) (s : Shared) (σ : L2.St) (H : Hp) (D : Ends), L2.Inv X pins σ H s → t D σ H → PySem.wpAt (model X.prog X.w) X.A (.func body X.env) (execs st X.env) (SP X pins D) X.xe s
section
variable {X : Cx} {body rest : List Stmt} {st : Stmt} {t u : TS}
theorem pw_of {sts : List Stmt} (h : PSs X sts t) : PWs X body sts t := ⟨fun pins s σ H D I q => PySem.wpAt_of_wpAny (h.run pins s σ H D I q)⟩
theorem pw_cons (h1 : PS X st t) (h2 : PWs X body rest u) : PWs X body (st :: rest) (tSeq t u) := by
  refine ⟨fun pins s σ H D I q => PySem.ks_wpAt_execs_cons (PySem.wpAt_of_wpAny (thn (h1.run pins s σ H { D with nx := u D } I q) fun f s1 z => ?_))⟩
  cases f with
  | next =>
    obtain ⟨σ1, H1, I1, z⟩ := z
    exact h2.run pins s1 σ1 H1 D I1 z
  | ret v => exact z
  | brk => exact z
  | cont => exact z
end
/-- what the written part says of super() in a def of the class at D -/
structure SupD (P : Program) (K : PySem.W.Frag) (mg : Str → Option Value) (D cc cda : Addr) : Prop where
  code : ∃ ccl cdd cvs ccs file tf, K.lookup cda = some ⟨ccl, cdd, .fields cvs, ccs⟩ ∧ cvs[2]? = some (Value.str file tf) ∧ ((P.main.file : Str) == file) = true
  cell : ∃ cl cld csl, K.lookup cc = some ⟨cl, cld, .cell (some (.ref D)), csl⟩
  cls : ∃ cd, PySem.W.clsIn K D = some cd
  sup : mg "super" = none
  top : (P.main.scope.names.lookup ("super" : Str)).isSome = false
  opq : PySem.W.nsIn K cStatics "thirdparty.any" = some none
/-- a def with the cell __class__, by its statements -/
theorem fnW_of {P : Program} {w : World} {K : PySem.W.Frag} {mg : Str → Option Value} {base : Heap} {CX : CXT} {k : Nat} {f D cc cda : Addr} {name qual : Str} {params : Arguments} {body : List Stmt} {scope : Scope} {dV kV doc pm ct oc : Value} {an od : Option Addr} {osl : Array (Option Value)}
    {N ps : List Str} {sp : Sp} (lk : K.lookup f = some ⟨oc, od, .func (PySem.W.ksFn name qual params body scope dV kV doc pm an (.ref cda) ct cc), osl⟩) (hcd : PySem.W.codeIn K (.ref cda) qual = true) (S : NdefX.NScope N ps ["__class__"] scope) (U : SupD P K mg D cc cda)
    (len : ∀ vs H Q E, sp vs H Q E → vs.length = ps.length)
    (hbody : ∀ (A : Around) (outer : List Env) (s : Shared) (H : Hp) (vs : List V) (Q : VK) (E : XK), Room k (A.deeper (NdefX.envF (nfS name qual params body scope cc cda) f s.heap.objs.size)) → sp vs H Q E →
      ∃ t, PWs (NdefX.ncx CX P w K mg base N (nfS name qual params body scope cc cda) f A outer s H E) body body t ∧ t { nx := fun _ H' => Q .non H', rt := Q } (NdefX.startF N vs [none]) H) :
    FnOk P w K mg base CX (k + 1) f (PySem.W.ksFn name qual params body scope dV kV doc pm an (.ref cda) ct cc) ps sp := by
  refine ⟨len, fun A outer s H args us vs Q E hr e0 hb r hsp => ?_⟩
  have hl := len _ _ _ _ hsp
  have KX : K.In s.heap := e0.mod.kin.keeps fun b o e => (e0.bs b o e).1
  have lim : s.heap.NoLimit := e0.mod.nolimit.keeps fun b o e => (e0.bs b o e).1
  obtain ⟨cl, cld, csl, hcell⟩ := U.cell
  have CA : NdefX.CellsAt [("__class__", cc)] ["__class__"] [none] s.heap H := by
    have key : ∀ (y : Str) (c : Addr), ([("__class__", cc)] : List (Str × Addr)).lookup y = some c → y = "__class__" ∧ c = cc := fun y c e => by
      have m := PySem.mem_of_lookup e
      simp only [List.mem_singleton, Prod.mk.injEq] at m
      exact m
    refine ⟨rfl, fun y c e => ?_, fun x y c e1 e2 => ?_, fun i y e => ?_⟩
    · obtain ⟨_, rfl⟩ := key y c e
      exact ⟨(e0.bs _ _ (e0.mod.kin _ _ hcell)).2, _, _, KX _ _ hcell, rfl⟩
    · rw [(key x c e1).1, (key y c e2).1]
    · have m := List.mem_of_getElem? e
      simp only [List.mem_singleton] at m
      subst m
      refine ⟨cc, by rfl, fun v z => ?_⟩
      have z := List.mem_of_getElem? z
      simp at z
  refine PySem.ks_codeAny_call_defAt (fd := PySem.W.ksFn name qual params body scope dV kV doc pm an (.ref cda) ct cc) hr.depth (KX _ _ lk) rfl lim (PySem.W.codeRec_of KX hcd) rfl hb S.nocell (fun ⟨n, _⟩ hy => S.par n (List.of_mem_zip hy).1) (fun h₀ hns kp => ?_) S.co S.gen S.kind
  obtain ⟨t, ht, hq⟩ := hbody A outer s H vs Q E (hr.deeper _) hsp
  have I : L2.Inv (NdefX.ncx CX P w K mg base N (nfS name qual params body scope cc cda) f A outer s H E) [] (NdefX.startF N vs [none]) H { s with heap := h₀, toks := s.toks + (ps.zip us).length } := NdefX.inv_startN S hr.hd e0 hl r CA hns kp
  refine PySem.wpAt_mono (ht.run [] _ _ H _ I hq) (fun fl s' hs => ?_) fun e s' hs => hs
  have fin : ∀ {σ' : L2.St} {H' : Hp} {v : V} {u : Value}, L2.Inv (NdefX.ncx CX P w K mg base N (nfS name qual params body scope cc cda) f A outer s H E) [] σ' H' s' → L2.RelV v u → Q v H' → CE outer P w H s Q u s' :=
    fun {σ' H' v u} J rv q => ⟨v, H', J.os, J.bare, J.base, J.hok, rv, q⟩
  cases fl with
  | ret u =>
    obtain ⟨v, σ', H', J, rv, q⟩ := hs
    exact fin J rv q
  | next =>
    obtain ⟨σ', H', J, q⟩ := hs
    exact fin (v := V.non) (u := Value.none) J rfl q
  | brk =>
    obtain ⟨_, _, _, q⟩ := hs
    exact False.elim q
  | cont =>
    obtain ⟨_, _, _, q⟩ := hs
    exact False.elim q
end Hf
namespace Hf
open PySem PySem.Spec PyProof.Rows L2
section
variable {prog : Program} {w : World} {A : Around} {E : Value → Shared → Prop} {h : Heap} {g : Array GenState} {d : Drawn} {t : Nat} {os : OsState}
/-- how a call with stars comes by what it calls -/
abbrev starM (ov : Value) (m : Str) : Sem (Value × List Value) := do pure (← getAttr ov m true, [])
theorem super_attr {so D x C f : Addr} {of : Obj} {l₀ l : List Value} {K : PySem.W.Frag} {name : Str} {Q : Value × List Value → Shared → Prop}
    (hso : h.get? so = some { cls := .type "super", dict := none, data := .fields #[.ref D, .ref x, .ref C], slots := #[] }) (hno : PySem.W.Looks (model prog w) h (opaqueClassAbove (.ref C)) none)
    (hC : PySem.W.Looks (model prog w) h (mroOf (.ref C)) l₀) (hl : (l₀.dropWhile (· != .ref D)).drop 1 = l) (X : K.In h)
    (hf : PySem.W.alongIn K name l = some (some (.ref f))) (hfo : h.get? f = some of) (hfc : of.cls = .type "function") (hxC : x ≠ C) (hn : (name == ("__class__" : Str)) = false)
    (hq : Q (.ref h.objs.size, []) ⟨h.push { cls := .type "method", data := .fields #[.ref f, .ref x] }, g, d, t + 1, os⟩) :
    wpAny (model prog w) A (starM (.ref so) name) Q E ⟨h, g, d, t, os⟩ := by
  have hlk := F.ks_slot_super_ga.lookup
  have ty : ∀ u, (⟨h, g, d, u, os⟩ : Shared).TypeIs (.ref so) "super" := fun _ => ⟨_, hso, rfl⟩
  refine wpAny_bind ?_
  unfold getAttr getAttrBy
  refine wpAny_bind (wpAny_mkText (wpAny_holding (wpAny_bind (wpAny_typeOf (ty _) (wpAny_bind (wpAny_of_eq hlk ?_))))))
  show wpAny _ _ (getAttrByItsOwn (.ref so) (.str name t) (.type "super") (.builtin "super.__getattribute__") true true) _ _ _
  unfold getAttrByItsOwn hookBefore callGetattribute boundAndCalled
  refine wpAny_bind (wpAny_of_eq (show (if onTheHeap (.type "super") then typeLookup (.type "super") "__getattr__" else pure none) = pure none from rfl) ?_)
  refine wpAny_bind (wpAny_attempt (wpAny_holding ?_))
  show wpAny _ _ (bindSpecial (.builtin "super.__getattribute__") (.ref so) >>= _) _ _ _
  refine wpAny_bind (wpAny_of_eq (F.ks_slot_super_ga.bind _) ?_)
  refine wpAny_mono (Q := fun v s' => v = .ref h.objs.size ∧ s' = ⟨h.push { cls := .type "method", data := .fields #[.ref f, .ref x] }, g, d, t + 1, os⟩) (E := fun _ _ => False)
    (wpAny_call_entry F.ks_slot_super_ga (ty _) F.ks_entry_super_ga (PySem.ks_wpAny_super_ga hso hno hC hl X hf hfo hfc hxC hn ⟨_, rfl, rfl, rfl⟩) (F.ks_gaArgs_super _ _)) (fun v s' hv => ?_) fun _ _ z => z.elim
  obtain ⟨rfl, rfl⟩ := hv
  exact wpAny_pure (wpAny_pure hq)
end
section
variable {P : Program} {w : World} {K : PySem.W.Frag} {mg : Str → Option Value} {base : Heap} {CX : CXT} {f D cc cda : Addr} {name qual : Str} {params : Arguments} {body : List Stmt} {scope : Scope} {dV kV doc pm ct oc : Value} {an od : Option Addr} {osl : Array (Option Value)}
  {N ps : List Str} {A : Around} {outer : List Env} {s : Shared} {H0 : Hp} {E : XK} {p0 p1 : Pos} {ar : Arg}
/-- super().m within a def of D, on an instance of C: the bound method, new -/
theorem super_at (lk : K.lookup f = some ⟨oc, od, .func (PySem.W.ksFn name qual params body scope dV kV doc pm an (.ref cda) ct cc), osl⟩) (S : NdefX.NScope N ps ["__class__"] scope) (U : SupD P K mg D cc cda) (h0 : ps[0]? = some ar.arg)
    (har : (params.posonlyargs ++ params.args).head? = some ar) (hks : scope.names.lookup ("super" : Str) = some .globalImplicit) {pins : List (Addr × Obj)} {σ : L2.St} {H : Hp} {s1 : Shared} {a C dx g : Addr} {fs : List (Str × V)} {m : Str} {pl : Sem Bool} {Q : Value × List Value → Shared → Prop} {E1 : Value → Shared → Prop}
    (I : L2.Inv (NdefX.ncx CX P w K mg base N (nfS name qual params body scope cc cda) f A outer s H0 E) pins σ H s1) (hσ : σ[0]? = some (some (.ref a))) (hin : H a = some (.ins C dx fs)) (hsub : PySem.W.mroIn K C (.ref D) = some true)
    (hm : PySem.W.ks_superIn K C D m = some (some (.ref g))) (ht : PySem.W.typeIn K (.ref g) = some (.type "function")) (hn : (m == ("__class__" : Str)) = false)
    (h : ∀ (q : Addr) (s' : Shared), L2.Inv (NdefX.ncx CX P w K mg base N (nfS name qual params body scope cc cda) f A outer s H0 E) ((q, PySem.W.methodObj (.ref g) (.ref a)) :: pins) σ H s' → base.get? q = none → Q (.ref q, []) s') :
    PySem.wpAt (model P w) (NdefX.ncx CX P w K mg base N (nfS name qual params body scope cc cda) f A outer s H0 E).A (.func body (NdefX.ncx CX P w K mg base N (nfS name qual params body scope cc cda) f A outer s H0 E).env)
      (attributeBase (.Call (.Name "super" p0) [] [] p1) m (NdefX.ncx CX P w K mg base N (nfS name qual params body scope cc cda) f A outer s H0 E).env (eval (.Call (.Name "super" p0) [] [] p1) (NdefX.ncx CX P w K mg base N (nfS name qual params body scope cc cda) f A outer s H0 E).env))
      (fun ov s2 => wpAny (model P w) (NdefX.ncx CX P w K mg base N (nfS name qual params body scope cc cda) f A outer s H0 E).A (getMethod ov m pl) Q E1 s2) E1 s1 := by
  obtain ⟨cl, cld, csl, hcell⟩ := U.cell
  obtain ⟨ccl, cdd, cvs, ccs, file, tf, hcode, hvs, hfile⟩ := U.code
  obtain ⟨cdD, hcD⟩ := U.cls
  have hkc : scope.names.lookup ("__class__" : Str) = some .free := S.frk _ List.mem_cons_self
  have hka : scope.names.lookup ar.arg = some .local := S.par _ (List.mem_of_getElem? h0)
  have hN0 : N[0]? = some ar.arg := by
    have e := congrArg (fun l => l[0]?) S.pre
    have lp : 0 < ps.length := (List.getElem?_eq_some_iff.mp h0).1
    simp only [List.getElem?_append_left lp] at e
    exact (List.getElem?_take_of_lt (show 0 < ps.length + (["__class__"] : List Str).length from by omega)).symm.trans (e.trans h0)
  obtain ⟨mm, hmm, hlook⟩ := I.loc
  have hself : mm ar.arg = some (.ref a) := by
    obtain ⟨u, ru, z⟩ := hlook 0 ar.arg (.ref a) hN0 hσ (.inl hka)
    obtain rfl : u = Value.ref a := ru
    rcases z with ⟨_, z⟩ | ⟨z, _⟩
    · exact z
    · have hka' : (NdefX.ncx CX P w K mg base N (nfS name qual params body scope cc cda) f A outer s H0 E).env.kindOf ar.arg = some .local := hka
      rcases z with z | z <;> rw [hka'] at z <;> cases z
  obtain ⟨oD, hD1, hD2⟩ : ∃ oD, s1.heap.get? D = some oD ∧ oD.data = .cls cdD := by
    unfold PySem.W.clsIn at hcD
    split at hcD
    · rename_i c d cd' sl ho
      cases hcD
      exact ⟨_, I.kIn _ _ ho, rfl⟩
    · cases hcD
  obtain ⟨ox, odx, J⟩ := ins_at I hin
  obtain ⟨mb, hb1, hb2⟩ := I.mod.blt
  refine PySem.ks_wpAt_super_base (fd := PySem.W.ksFn name qual params body scope dV kV doc pm an (.ref cda) ct cc) hks hkc hn rfl (I.kIn _ _ lk) rfl har rfl (I.kIn _ _ hcode) rfl hvs hfile U.top ?_
  refine PySem.W.ks_loadName_global S.kind hks (PySem.Calls.loadGlobal_builtin (I.mod.glob.keeps I.bk) U.sup (hb1.keeps I.bk) ((hb2 _ (by decide)).trans PyProof.Rows.Boot.«super») ⟨rfl, ?_⟩)
  refine wpAny_loadName_free S.kind hkc rfl ⟨_, I.kIn _ _ hcell, rfl⟩ ?_
  refine wpAny_loadName_local S.kind hka hmm hself ?_
  refine PySem.ks_wpAny_isType_cls hD1 hD2 ⟨rfl, ?_⟩
  obtain ⟨hp1, g1, d1, tk1, os1⟩ := s1
  refine PySem.ks_wpAny_call_super hD1 hD2 J.at_ J.cls (fun c e => ?_) (PySem.W.looks_mroIn I.kIn hsub) (fun h2 hso k2 => ?_)
  · have := J.no
    unfold PySem.W.notCls at this
    rw [e] at this
    exact Bool.noConfusion this
  have I2 := I.kept (t' := tk1) k2
  cases hc : PySem.W.clsIn K C with
  | none =>
    unfold PySem.W.ks_superIn at hm
    rw [hc] at hm
    cases hm
  | some cd =>
    unfold PySem.W.ks_superIn at hm
    rw [hc] at hm
    obtain ⟨of, hof, hofc⟩ : ∃ of, h2.get? g = some of ∧ of.cls = .type "function" := by
      have ht' : (K.lookup g).map (·.cls) = some (.type "function") := ht
      cases z : K.lookup g with
      | none => rw [z] at ht'; cases ht'
      | some of => rw [z] at ht'; exact ⟨of, I2.kIn _ _ z, Option.some.inj ht'⟩
    refine PySem.ks_wpAny_getMethod_super hso (PySem.W.looks_opaque I2.kIn U.opq) (l₀ := cd.mro) ?_ rfl I2.kIn hm hof hofc (PySem.W.ks_ne I.kIn J hc) hn ?_
    · exact fun A Q E s k q => wpAny_bind ((PySem.W.looks_clsIn I2.kIn hc) A _ E s k (wpAny_pure q))
    · exact h _ _ (ClX.met_new I2) (ClX.base_none I2 (Nat.le_refl _))
/-- the same where the call has stars: super().m within a def of D, on an instance of C: the bound method, new -/
theorem super_atA (lk : K.lookup f = some ⟨oc, od, .func (PySem.W.ksFn name qual params body scope dV kV doc pm an (.ref cda) ct cc), osl⟩) (S : NdefX.NScope N ps ["__class__"] scope) (U : SupD P K mg D cc cda) (h0 : ps[0]? = some ar.arg)
    (har : (params.posonlyargs ++ params.args).head? = some ar) (hks : scope.names.lookup ("super" : Str) = some .globalImplicit) {pins : List (Addr × Obj)} {σ : L2.St} {H : Hp} {s1 : Shared} {a C dx g : Addr} {fs : List (Str × V)} {m : Str} {Q : Value × List Value → Shared → Prop} {E1 : Value → Shared → Prop}
    (I : L2.Inv (NdefX.ncx CX P w K mg base N (nfS name qual params body scope cc cda) f A outer s H0 E) pins σ H s1) (hσ : σ[0]? = some (some (.ref a))) (hin : H a = some (.ins C dx fs)) (hsub : PySem.W.mroIn K C (.ref D) = some true)
    (hm : PySem.W.ks_superIn K C D m = some (some (.ref g))) (ht : PySem.W.typeIn K (.ref g) = some (.type "function")) (hn : (m == ("__class__" : Str)) = false)
    (h : ∀ (q : Addr) (s' : Shared), L2.Inv (NdefX.ncx CX P w K mg base N (nfS name qual params body scope cc cda) f A outer s H0 E) ((q, PySem.W.methodObj (.ref g) (.ref a)) :: pins) σ H s' → base.get? q = none → Q (.ref q, []) s') :
    PySem.wpAt (model P w) (NdefX.ncx CX P w K mg base N (nfS name qual params body scope cc cda) f A outer s H0 E).A (.func body (NdefX.ncx CX P w K mg base N (nfS name qual params body scope cc cda) f A outer s H0 E).env)
      (attributeBase (.Call (.Name "super" p0) [] [] p1) m (NdefX.ncx CX P w K mg base N (nfS name qual params body scope cc cda) f A outer s H0 E).env (eval (.Call (.Name "super" p0) [] [] p1) (NdefX.ncx CX P w K mg base N (nfS name qual params body scope cc cda) f A outer s H0 E).env))
      (fun ov s2 => wpAny (model P w) (NdefX.ncx CX P w K mg base N (nfS name qual params body scope cc cda) f A outer s H0 E).A (starM ov m) Q E1 s2) E1 s1 := by
  obtain ⟨cl, cld, csl, hcell⟩ := U.cell
  obtain ⟨ccl, cdd, cvs, ccs, file, tf, hcode, hvs, hfile⟩ := U.code
  obtain ⟨cdD, hcD⟩ := U.cls
  have hkc : scope.names.lookup ("__class__" : Str) = some .free := S.frk _ List.mem_cons_self
  have hka : scope.names.lookup ar.arg = some .local := S.par _ (List.mem_of_getElem? h0)
  have hN0 : N[0]? = some ar.arg := by
    have e := congrArg (fun l => l[0]?) S.pre
    have lp : 0 < ps.length := (List.getElem?_eq_some_iff.mp h0).1
    simp only [List.getElem?_append_left lp] at e
    exact (List.getElem?_take_of_lt (show 0 < ps.length + (["__class__"] : List Str).length from by omega)).symm.trans (e.trans h0)
  obtain ⟨mm, hmm, hlook⟩ := I.loc
  have hself : mm ar.arg = some (.ref a) := by
    obtain ⟨u, ru, z⟩ := hlook 0 ar.arg (.ref a) hN0 hσ (.inl hka)
    obtain rfl : u = Value.ref a := ru
    rcases z with ⟨_, z⟩ | ⟨z, _⟩
    · exact z
    · have hka' : (NdefX.ncx CX P w K mg base N (nfS name qual params body scope cc cda) f A outer s H0 E).env.kindOf ar.arg = some .local := hka
      rcases z with z | z <;> rw [hka'] at z <;> cases z
  obtain ⟨oD, hD1, hD2⟩ : ∃ oD, s1.heap.get? D = some oD ∧ oD.data = .cls cdD := by
    unfold PySem.W.clsIn at hcD
    split at hcD
    · rename_i c d cd' sl ho
      cases hcD
      exact ⟨_, I.kIn _ _ ho, rfl⟩
    · cases hcD
  obtain ⟨ox, odx, J⟩ := ins_at I hin
  obtain ⟨mb, hb1, hb2⟩ := I.mod.blt
  refine PySem.ks_wpAt_super_base (fd := PySem.W.ksFn name qual params body scope dV kV doc pm an (.ref cda) ct cc) hks hkc hn rfl (I.kIn _ _ lk) rfl har rfl (I.kIn _ _ hcode) rfl hvs hfile U.top ?_
  refine PySem.W.ks_loadName_global S.kind hks (PySem.Calls.loadGlobal_builtin (I.mod.glob.keeps I.bk) U.sup (hb1.keeps I.bk) ((hb2 _ (by decide)).trans PyProof.Rows.Boot.«super») ⟨rfl, ?_⟩)
  refine wpAny_loadName_free S.kind hkc rfl ⟨_, I.kIn _ _ hcell, rfl⟩ ?_
  refine wpAny_loadName_local S.kind hka hmm hself ?_
  refine PySem.ks_wpAny_isType_cls hD1 hD2 ⟨rfl, ?_⟩
  obtain ⟨hp1, g1, d1, tk1, os1⟩ := s1
  refine PySem.ks_wpAny_call_super hD1 hD2 J.at_ J.cls (fun c e => ?_) (PySem.W.looks_mroIn I.kIn hsub) (fun h2 hso k2 => ?_)
  · have := J.no
    unfold PySem.W.notCls at this
    rw [e] at this
    exact Bool.noConfusion this
  have I2 := I.kept (t' := tk1) k2
  cases hc : PySem.W.clsIn K C with
  | none =>
    unfold PySem.W.ks_superIn at hm
    rw [hc] at hm
    cases hm
  | some cd =>
    unfold PySem.W.ks_superIn at hm
    rw [hc] at hm
    obtain ⟨of, hof, hofc⟩ : ∃ of, h2.get? g = some of ∧ of.cls = .type "function" := by
      have ht' : (K.lookup g).map (·.cls) = some (.type "function") := ht
      cases z : K.lookup g with
      | none => rw [z] at ht'; cases ht'
      | some of => rw [z] at ht'; exact ⟨of, I2.kIn _ _ z, Option.some.inj ht'⟩
    refine super_attr hso (PySem.W.looks_opaque I2.kIn U.opq) (l₀ := cd.mro) ?_ rfl I2.kIn hm hof hofc (PySem.W.ks_ne I.kIn J hc) hn ?_
    · exact fun A Q E s k q => wpAny_bind ((PySem.W.looks_clsIn I2.kIn hc) A _ E s k (wpAny_pure q))
    · exact h _ _ (ClX.met_new I2) (ClX.base_none I2 (Nat.le_refl _))
end
end Hf
namespace Hf
open PySem PySem.Spec PyProof.Rows L2
section
variable {M : Model} {A : Around} {c : Code} {E : Value → Shared → Prop} {s : Shared} {env : Env}
/-- o.m(..) right in a frame -/
theorem at_call {call o : Expr} {m : Str} {apos pos : Pos} {a1 : List (Bool × Sem Value)} {a2 : List (Option Str × Sem Value)} {pl : Sem Bool} {Q : Value → Shared → Prop}
    (h : PySem.wpAt M A c (attributeBase o m env (eval o env)) (fun ov s1 => wpAny M A (getMethod ov m pl) (fun fx s2 => wpAny M A (callWith pos fx.1 fx.2 a1 a2) Q E s2) E s1) E s)
    (he : eval call env = (do
      let ov ← attributeBase o m env (eval o env)
      standAt apos.atName
      let (f, first) ← holding [ov] (getMethod ov m pl)
      callWith pos f first a1 a2)) : PySem.wpAt M A c (eval call env) Q E s := by
  rw [he]
  exact PySem.wpAt_bind (PySem.wpAt_mono h (fun ov s1 h1 => PySem.wpAt_of_wpAny (wpAny_bind (wpAny_standAt (wpAny_bind (wpAny_holding (wpAny_mono h1 (fun fx s2 h2 => h2) fun _ _ x => x)))))) fun _ _ x => x)
end
end Hf
namespace Hf
open PySem PySem.Spec PyProof.Rows L2
/-- g called with one value and these keywords -/
structure CallK (P : Program) (w : World) (K : PySem.W.Frag) (mg : Str → Option Value) (base : Heap) (CX : CXT) (k : Nat) (g : Addr) (ks : List Str) (sp : Sp) : Prop where
  run : ∀ (A : Around) (outer : List Env) (s : Shared) (H : Hp) (v : V) (u : Value) (zs : List V) (ws : List Value) (Q : VK) (E : XK), Room k A → Env0 P w K mg base A outer s H → L2.RelV v u → Vals zs ws → zs.length = ks.length → sp (v :: zs) H Q E →
    codeAny (model P w) A (.call (.ref g) ⟨[u], ks.zip ws⟩) (CR CX outer P w H s Q E) s
section
variable {X : Cx} {CX : CXT} {k : Nat} {g : Addr} {ks : List Str} {sp : Sp} {E1 : XK} {pins : List (Addr × Obj)} {σ : L2.St} {H : Hp} {s : Shared} {Q : VK} {v : V} {u : Value} {zs : List V} {ws : List Value}
theorem run_callK (F : CallK X.prog X.w X.K X.mg X.base CX k g ks sp) (hr : Room k X.A) (hx : Passes CX X E1) (I : L2.Inv X pins σ H s) (rv : L2.RelV v u) (rz : Vals zs ws) (l : zs.length = ks.length) (q : sp (v :: zs) H Q E1) :
    codeAny (model X.prog X.w) X.A (.call (.ref g) ⟨[u], ks.zip ws⟩) (fun r s' => match r with | .error e => X.xe e s' | .ok (.ret u) => EP X pins σ Q u s' | _ => False) s := by
  refine codeAny_mono (F.run X.A X.stack s H v u zs ws Q E1 hr I.env0 rv rz l q) fun r s' z => ?_
  cases r with
  | error e => exact hx pins σ _ _ e s' I z
  | ok fl =>
    cases fl with
    | ret u => exact I.after z
    | next => exact False.elim z
    | brk => exact False.elim z
    | cont => exact False.elim z
end
end Hf
namespace Hf
open PySem PySem.Spec PyProof.Rows L2
/-- what super().m(k = v, ..) right in a def of D wants -/
structure SupMK (P : Program) (w : World) (K : PySem.W.Frag) (mg : Str → Option Value) (base : Heap) (CX : CXT) (k : Nat) (C D : Addr) (m : Str) (ks : List Str) (sp : Sp) : Prop where
  at_ : ∃ g, PySem.W.ks_superIn K C D m = some (some (.ref g)) ∧ PySem.W.typeIn K (.ref g) = some (.type "function") ∧ PySem.W.fnIn K g = true ∧ CallK P w K mg base CX k g ks sp
  sub : PySem.W.mroIn K C (.ref D) = some true
def tSupK (C : Addr) (n : Nat) (sp : Sp) (E1 : XK) (tk : TA) (u : TS) : TS := fun Dn σ H => ∃ (a dx : Addr) (fs : List (Str × V)), σ[0]? = some (some (.ref a)) ∧ H a = some (.ins C dx fs) ∧ tk σ H fun zs H1 => zs.length = n ∧ sp (.ref a :: zs) H1 (fun _ H' => u Dn σ H') E1
section
variable {P : Program} {w : World} {K : PySem.W.Frag} {mg : Str → Option Value} {base : Heap} {CX : CXT} {f D cc cda : Addr} {name qual : Str} {params : Arguments} {body : List Stmt} {scope : Scope} {dV kV doc pm ct oc : Value} {an od : Option Addr} {osl : Array (Option Value)}
  {N ps : List Str} {A : Around} {outer : List Env} {s : Shared} {H0 : Hp} {E : XK} {p0 p1 p2 p4 p5 : Pos} {ar : Arg}
/-- super().m(k = v, ..) as a statement -/
theorem pw_supK (lk : K.lookup f = some ⟨oc, od, .func (PySem.W.ksFn name qual params body scope dV kV doc pm an (.ref cda) ct cc), osl⟩) (S : NdefX.NScope N ps ["__class__"] scope) (U : SupD P K mg D cc cda) (h0 : ps[0]? = some ar.arg)
    (har : (params.posonlyargs ++ params.args).head? = some ar) (hks0 : scope.names.lookup ("super" : Str) = some .globalImplicit) {C : Addr} {m : Str} {pl : Sem Bool} {k j : Nat} {ks : List Str} {kws : List Keyword} {tk : TA} {sp : Sp} {E1 : XK} {rest : List Stmt} {u : TS}
    (SM : SupMK P w K mg base CX k C D m ks sp) (hr : Room j (NdefX.ncx CX P w K mg base N (nfS name qual params body scope cc cda) f A outer s H0 E).A) (hx : Passes CX (NdefX.ncx CX P w K mg base N (nfS name qual params body scope cc cda) f A outer s H0 E) E1)
    (hkw : PK (NdefX.ncx CX P w K mg base N (nfS name qual params body scope cc cda) f A outer s H0 E) kws tk) (hrest : PWs (NdefX.ncx CX P w K mg base N (nfS name qual params body scope cc cda) f A outer s H0 E) body rest u) (hk : k ≤ j := by decide) (hn : (m == ("__class__" : Str)) = false := by decide)
    (hall : (backToKw p4 (keywordEach kws (NdefX.ncx CX P w K mg base N (nfS name qual params body scope cc cda) f A outer s H0 E).env)).all (·.1.isSome) = true := by rfl) (hks : (backToKw p4 (keywordEach kws (NdefX.ncx CX P w K mg base N (nfS name qual params body scope cc cda) f A outer s H0 E).env)).filterMap (·.1) = ks := by rfl)
    (hpl : ((backTo p4 (starEach [] (NdefX.ncx CX P w K mg base N (nfS name qual params body scope cc cda) f A outer s H0 E).env)).any (·.1) || (backToKw p4 (keywordEach kws (NdefX.ncx CX P w K mg base N (nfS name qual params body scope cc cda) f A outer s H0 E).env)).any (·.1.isNone)) = false := by rfl)
    (he : eval (.Call (.Attribute (.Call (.Name "super" p0) [] [] p1) m p2) [] kws p4) (NdefX.ncx CX P w K mg base N (nfS name qual params body scope cc cda) f A outer s H0 E).env = (do
      let ov ← attributeBase (.Call (.Name "super" p0) [] [] p1) m (NdefX.ncx CX P w K mg base N (nfS name qual params body scope cc cda) f A outer s H0 E).env (eval (.Call (.Name "super" p0) [] [] p1) (NdefX.ncx CX P w K mg base N (nfS name qual params body scope cc cda) f A outer s H0 E).env)
      standAt p2.atName
      let (f', first) ← holding [ov] (getMethod ov m pl)
      callWith p4 f' first (backTo p4 (starEach [] (NdefX.ncx CX P w K mg base N (nfS name qual params body scope cc cda) f A outer s H0 E).env)) (backToKw p4 (keywordEach kws (NdefX.ncx CX P w K mg base N (nfS name qual params body scope cc cda) f A outer s H0 E).env))) := by rfl)
    (hi : interactive (NdefX.ncx CX P w K mg base N (nfS name qual params body scope cc cda) f A outer s H0 E).env = false := by rfl) (hsw : swapsWith (.Call (.Attribute (.Call (.Name "super" p0) [] [] p1) m p2) [] kws p4) none p5.line (NdefX.ncx CX P w K mg base N (nfS name qual params body scope cc cda) f A outer s H0 E).env = pure false := by rfl) :
    PWs (NdefX.ncx CX P w K mg base N (nfS name qual params body scope cc cda) f A outer s H0 E) body (.Expr (.Call (.Attribute (.Call (.Name "super" p0) [] [] p1) m p2) [] kws p4) p5 :: rest) (tSupK C ks.length sp E1 tk u) := by
  obtain ⟨g, hm, ht, hf, F⟩ := SM.at_
  refine ⟨fun pins s1 σ H Dn I h => ?_⟩
  obtain ⟨a, dx, fs, hσ, hin, q⟩ := h
  refine PySem.ks_wpAt_execs_cons (PySem.ks_wpAt_Expr_any (hi := hi) (hs := hsw) (at_call (super_at lk S U h0 har hks0 I hσ hin SM.sub hm ht hn fun q' s' I2 hb => ?_) he))
  refine PySem.W.callWith_of (first := []) (P := PySem.W.MethP K q' g (.ref a)) hpl (PySem.W.keeps_M hf) (evalArgs_kw2_nil hall ?_)
  refine thn (hkw.run p4 _ s' σ H _ I2 q) fun ws s3 ⟨zs, H2, I3, rz, l2, q2⟩ => ⟨⟨ClX.pin_at I3, I3.kIn⟩, ?_⟩
  rw [hks]
  have z : wpAny (model P w) (NdefX.ncx CX P w K mg base N (nfS name qual params body scope cc cda) f A outer s H0 E).A (call (.ref q') ([] ++ []) (ks.zip ws)) (EP (NdefX.ncx CX P w K mg base N (nfS name qual params body scope cc cda) f A outer s H0 E) ((q', PySem.W.methodObj (.ref g) (.ref a)) :: pins) σ (fun _ H' => u Dn σ H')) (NdefX.ncx CX P w K mg base N (nfS name qual params body scope cc cda) f A outer s H0 E).xe s3 := by
    refine wpAny_call (PySem.W.method_call (ClX.pin_at I3) (codeAny_mono (run_callK F (hr.mono hk) hx I3 (v := .ref a) (u := .ref a) rfl rz l2 q2) fun r s' z => ?_))
    cases r with
    | error e => exact z
    | ok fl => cases fl <;> exact z
  refine thn (thn z fun _ _ y => ClX.unpinE y) fun v s4 y => ?_
  obtain ⟨v', H', I4, rv, q4⟩ := y
  exact hrest.run pins s4 σ H' Dn I4 q4
end
end Hf
namespace Hf
open PySem PySem.Spec PyProof.Rows L2
/-! ### a def with **rest: what is left over is a new dict -/
section
variable {P : Program} {w : World} {A : Around} {E : Value → Shared → Prop} {d : Addr}
abbrev dictL (es : List DictEntry) (n : Nat) : Obj := { cls := .type "dict", data := .dict es.toArray n }
theorem ns_set_at {s : Shared} {es : List DictEntry} {n : Nat} {k : Str} {v : Value} {Q : Unit → Shared → Prop} (D : s.heap.get? d = some (dictL es n)) (hs : ∀ e ∈ es, e.key.isStr k = false) (hr : ∀ e ∈ es, e.refKey = false)
    (h : ∀ h', Heap.SameBut d s.heap h' → h'.get? d = some (dictL (es ++ [⟨PyData.keyHash w.params k, .str k s.toks, v⟩]) (n + 1)) → Q () { s with heap := h', toks := s.toks + 1 }) :
    wpAny (model P w) A (nsSet d k v) Q E s := by
  have e1 : es.any (·.key.isStr k) = false := by
    rw [List.any_eq_false]
    exact fun e he => by rw [hs e he]; decide
  have e2 : es.any (·.refKey) = false := by
    rw [List.any_eq_false]
    exact fun e he => by rw [hr e he]; decide
  have e : Obj.putName k (PyData.keyHash w.params k) (.str k s.toks) v (dictL es n) = dictL (es ++ [⟨PyData.keyHash w.params k, .str k s.toks, v⟩]) (n + 1) := by
    refine (PySem.W.putName_dict k (PyData.keyHash w.params k) (.str k s.toks) v es n).trans ?_
    rw [PySem.W.putL_new hs]
    show PySem.W.dictOf _ (if es.any (·.key.isStr k) then n else n + 1) = _
    rw [e1, if_neg Bool.false_ne_true]
  have c : aRefKeyMayBeTheName k es.toArray = false := by
    rw [aRefKeyMayBeTheName_at, ← Array.any_toList, ← Array.any_toList]
    show (!es.any (·.key.isStr k) && es.any (·.refKey)) = false
    rw [e2, Bool.and_false]
  unfold nsSet
  refine wpAny_bind (wpAny_bind (wpAny_askSetting (wpAny_pure (wpAny_bind (wpAny_mkText (wpAny_bind (wpAny_loadPart D ?_)))))))
  dsimp only
  rw [c]
  have D' := Heap.get?_update_self (f := Obj.putName k (PyData.keyHash w.params k) (.str k s.toks) v) D (by rw [e]; rfl)
  rw [e] at D'
  exact wpAny_updatePart D (h _ (Heap.SameBut.update _ _ _) D')
def fillS (d : Addr) (l : List (Str × Value)) : Sem PUnit := forIn l PUnit.unit fun x _ => (nsSet d x.1 x.2 >>= fun _ => pure (ForInStep.yield PUnit.unit))
theorem fill_at {Q : PUnit → Shared → Prop} : ∀ (ex : List (Str × Value)) (s : Shared) (es : List DictEntry) (n : Nat), s.heap.get? d = some (dictL es n) → (∀ e ∈ es, ∀ x ∈ ex, e.key.isStr x.1 = false) → (∀ e ∈ es, e.refKey = false) → (ex.map (·.1)).Nodup →
    (∀ h', Heap.SameBut d s.heap h' → h'.get? d = some (dictL (es ++ PySem.W.kwEs w.params s.toks ex) (n + ex.length)) → Q ⟨⟩ { s with heap := h', toks := s.toks + ex.length }) →
    wpAny (model P w) A (fillS d ex) Q E s
  | [], s, es, n, D, _, _, _, h => by
    unfold fillS
    rw [List.forIn_nil]
    refine wpAny_pure (h s.heap (.refl _ _) ?_)
    show _ = some (dictL (es ++ []) n)
    rw [List.append_nil]
    exact D
  | x :: r, s, es, n, D, hs, hr, hn, h => by
    obtain ⟨hn1, hn2⟩ := List.nodup_cons.mp (show (x.1 :: r.map (·.1)).Nodup from hn)
    unfold fillS
    rw [List.forIn_cons]
    refine wpAny_bind (wpAny_bind (ns_set_at D (fun e he => hs e he x (.head _)) hr fun h' B' D' => wpAny_pure ?_))
    show wpAny (model P w) A (fillS d r) Q E { s with heap := h', toks := s.toks + 1 }
    refine fill_at r { s with heap := h', toks := s.toks + 1 } _ _ D' (fun e he y hy => ?_) (fun e he => ?_) hn2 fun h'' B'' D'' => ?_
    · rcases List.mem_append.mp he with he | he
      · exact hs e he y (.tail _ hy)
      · obtain rfl := List.mem_singleton.mp he
        show (x.1 == y.1) = false
        exact beq_eq_false_iff_ne.mpr fun q => hn1 (by rw [q]; exact List.mem_map_of_mem hy)
    · rcases List.mem_append.mp he with he | he
      · exact hr e he
      · obtain rfl := List.mem_singleton.mp he
        rfl
    · have t1 : s.toks + 1 + r.length = s.toks + (r.length + 1) := by omega
      have t2 : n + 1 + r.length = n + (r.length + 1) := by omega
      show Q ⟨⟩ { s with heap := h'', toks := s.toks + 1 + r.length }
      rw [t1]
      refine h h'' (B'.trans B'') ?_
      rw [t2, List.append_assoc] at D''
      exact D''
/-- names and values as a dict -/
def kwK (ks : List Str) (zs : List V) : List (Key × V) := (ks.map Sum.inr).zip zs
def kwV (ks : List Str) (ws : List Value) : List (Key × Value) := (ks.map Sum.inr).zip ws
theorem kw_rel : ∀ {ks : List Str} {zs : List V} {ws : List Value}, Vals zs ws → KV (kwK ks zs) (kwV ks ws)
  | [], _, _, _ => .nil
  | k :: ks, _, _, .nil => .nil
  | k :: ks, _, _, .cons r t => .cons ⟨rfl, r⟩ (kw_rel t)
theorem kw_pairs : ∀ (ks : List Str) (ws : List Value) (t : Tok), PySem.Pairs (mixKind P w) (PySem.W.kwEs w.params t (ks.zip ws)) (kwV ks ws)
  | [], _, _ => .nil
  | k :: ks, [], _ => .nil
  | k :: ks, u :: ws, t => .cons (mixKind_str P w k t) rfl (kw_pairs ks ws (t + 1))
theorem kw_keys : ∀ {ks : List Str} {ws : List Value}, ks.length = ws.length → (kwV ks ws).map (·.1) = ks.map Sum.inr
  | [], [], _ => rfl
  | k :: ks, u :: ws, h => by
    have h : ks.length = ws.length := Nat.succ.inj h
    show Sum.inr k :: (kwV ks ws).map (·.1) = _
    rw [kw_keys h]
    rfl
theorem nodup_inr {ks : List Str} (h : ks.Nodup) : (ks.map (Sum.inr : Str → Key)).Nodup := by
  induction ks with
  | nil => exact List.nodup_nil
  | cons k ks ih =>
    obtain ⟨h1, h2⟩ := List.nodup_cons.mp h
    rw [List.map_cons]
    refine List.nodup_cons.mpr ⟨fun z => ?_, ih h2⟩
    obtain ⟨x, hx, e⟩ := List.mem_map.mp z
    cases e
    exact h1 hx
theorem zip_keys : ∀ {ks : List Str} {ws : List Value}, ks.length = ws.length → (ks.zip ws).map (·.1) = ks
  | [], [], _ => rfl
  | k :: ks, u :: ws, h => by
    show k :: (ks.zip ws).map (·.1) = _
    rw [zip_keys (Nat.succ.inj h)]
theorem kw_dict {ks : List Str} {ws : List Value} {t : Tok} {n : Nat} {h : Heap} (hl : ks.length = ws.length) (hn : ks.Nodup) (D : h.get? d = some (dictL (PySem.W.kwEs w.params t (ks.zip ws)) n)) : h.DictOf (mixKind P w) d (kwV ks ws) := by
  refine ⟨_, _, _, D, ⟨rfl, rfl, rfl⟩, rfl, fun e he => ?_, kw_pairs ks ws t, by rw [kw_keys hl]; exact nodup_inr hn⟩
  obtain ⟨k, u, hk, hh⟩ := PySem.W.kwEs_key _ t e (List.mem_toArray.mp he)
  exact ⟨Sum.inr k, by rw [hk]; exact mixKind_str P w k u, hh.trans rfl⟩
end
section
variable {P : Program} {w : World} {K : PySem.W.Frag} {mg : Str → Option Value} {base : Heap} {CX : CXT} {k : Nat} {f D cc cda : Addr} {name qual : Str} {params : Arguments} {body : List Stmt} {scope : Scope} {dV kV doc pm ct oc : Value} {an od : Option Addr} {osl : Array (Option Value)}
  {N ps : List Str}
/-- a def with the cell __class__, called by whatever binds -/
theorem run_bndW {A : Around} {outer : List Env} {s : Shared} {H : Hp} {args : Args} {Q : VK} {E : XK} {G : List V → Hp → Prop} (lk : K.lookup f = some ⟨oc, od, .func (PySem.W.ksFn name qual params body scope dV kV doc pm an (.ref cda) ct cc), osl⟩) (hcd : PySem.W.codeIn K (.ref cda) qual = true)
    (S : NdefX.NScope N ps ["__class__"] scope) (U : SupD P K mg D cc cda) (hr : Room (k + 1) A) (e0 : Env0 P w K mg base A outer s H) (hb : StX.Bnd CX P w K mg base (PySem.W.ksFn name qual params body scope dV kV doc pm an (.ref cda) ct cc) args ps A outer s H E G)
    (hbody : ∀ (s2 : Shared) (H2 : Hp) (vs : List V), G vs H2 → Room k (A.deeper (NdefX.envF (nfS name qual params body scope cc cda) f s2.heap.objs.size)) →
      ∃ t, PWs (NdefX.ncx CX P w K mg base N (nfS name qual params body scope cc cda) f A outer s2 H2 E) body body t ∧ t { nx := fun _ H' => Q .non H', rt := Q } (NdefX.startF N vs [none]) H2) : codeAny (model P w) A (.call (.ref f) args) (CR CX outer P w H s Q E) s := by
  have KX : K.In s.heap := e0.mod.kin.keeps fun b o e => (e0.bs b o e).1
  obtain ⟨cl, cld, csl, hcell⟩ := U.cell
  refine codeAny_call_function (fd := PySem.W.ksFn name qual params body scope dV kV doc pm an (.ref cda) ct cc) hr.depth (KX _ _ lk) rfl S.co S.gen rfl (PySem.W.codeRec_of KX hcd) ?_
  refine hb _ _ _ fun s2 H2 vs us e2 un ho hx r hl g => ?_
  have KX2 : K.In s2.heap := e2.mod.kin.keeps fun b o e => (e2.bs b o e).1
  have lim : s2.heap.NoLimit := e0.mod.nolimit.keeps fun b o e => (e2.bs b o e).1
  have CA : NdefX.CellsAt [("__class__", cc)] ["__class__"] [none] s2.heap H2 := by
    have key : ∀ (y : Str) (c : Addr), ([("__class__", cc)] : List (Str × Addr)).lookup y = some c → y = "__class__" ∧ c = cc := fun y c e => by
      have m := PySem.mem_of_lookup e
      simp only [List.mem_singleton, Prod.mk.injEq] at m
      exact m
    refine ⟨rfl, fun y c e => ?_, fun x y c e1 e2 => ?_, fun i y e => ?_⟩
    · obtain ⟨_, rfl⟩ := key y c e
      exact ⟨(e2.bs _ _ (e2.mod.kin _ _ hcell)).2, _, _, KX2 _ _ hcell, rfl⟩
    · rw [(key x c e1).1, (key y c e2).1]
    · have m := List.mem_of_getElem? e
      simp only [List.mem_singleton] at m
      subst m
      refine ⟨cc, by rfl, fun v z => ?_⟩
      have z := List.mem_of_getElem? z
      simp at z
  refine wpAny_newFunctionEnv (s := s2) S.nocell (fun ⟨n, _⟩ hy => S.par n (List.of_mem_zip hy).1) (fun h₀ hns hsb => ⟨lim.fresh _ hsb, PySem.ks_codeAny_funcAt ?_⟩) S.kind
  have kp : ∀ b o, s2.heap.get? b = some o → h₀.get? b = some o := fun b o e => hsb.extBut b o (Nat.ne_of_lt (Heap.lt_size e)) (Heap.get?_push_of_some _ e)
  obtain ⟨t, ht, hq⟩ := hbody s2 H2 vs g (hr.deeper _)
  have I : L2.Inv (NdefX.ncx CX P w K mg base N (nfS name qual params body scope cc cda) f A outer s2 H2 E) [] (NdefX.startF N vs [none]) H2 { s2 with heap := h₀, toks := s2.toks + (ps.zip us).length } := NdefX.inv_startN S hr.hd e2 hl r CA hns kp
  refine PySem.wpAt_mono (ht.run [] _ _ H2 _ I hq) (fun fl s' hs => ?_) fun e s' hs => wpAny_mono hs (fun _ s'' z => hx e s'' z) fun e' s'' z => hx e' s'' z
  have fin : ∀ {σ' : L2.St} {H' : Hp} {v : V} {u : Value}, L2.Inv (NdefX.ncx CX P w K mg base N (nfS name qual params body scope cc cda) f A outer s2 H2 E) [] σ' H' s' → L2.RelV v u → Q v H' → CE outer P w H s Q u s' :=
    fun {σ' H' v u} J rv q => ⟨v, H', J.os.trans ho, J.bare, un.trans J.base, J.hok, rv, q⟩
  cases fl with
  | ret u =>
    obtain ⟨v, σ', H', J, rv, q⟩ := hs
    exact fin J rv q
  | next =>
    obtain ⟨σ', H', J, q⟩ := hs
    exact fin (v := V.non) (u := Value.none) J rfl q
  | brk =>
    obtain ⟨_, _, _, q⟩ := hs
    exact False.elim q
  | cont =>
    obtain ⟨_, _, _, q⟩ := hs
    exact False.elim q
/-- what a def with **pr binds -/
theorem bnd_kw {fd : FuncData} {args : Args} {qs ex : List Str} {pr : Str} {A : Around} {outer : List Env} {s : Shared} {H : Hp} {E : XK} {vs : List V} {us ws : List Value} {zs : List V} (hCX : StX.CXUp CX) (e0 : Env0 P w K mg base A outer s H)
    (hb : bindArgs fd args = ((alloc ({ cls := .type "dict", data := .dict #[] } : Obj) : Sem Addr) >>= fun d => fillS d (ex.zip ws) >>= fun _ => pure (qs.zip us ++ [(pr, Value.ref d)])))
    (r1 : Vals vs us) (hl1 : vs.length = qs.length) (r2 : Vals zs ws) (hl2 : zs.length = ex.length) (hn : ex.Nodup) (hz : ex.length ≤ 1000) :
    StX.Bnd CX P w K mg base fd args (qs ++ [pr]) A outer s H E (fun xs H2 => ∃ d, H d = none ∧ xs = vs ++ [V.ref d] ∧ H2 = upd H d (.dK (kwK ex zs))) := by
  intro A' Ex Q h
  have hlw : ex.length = ws.length := hl2.symm.trans r2.length
  have hn0 : H s.heap.objs.size = none := e0.hok.fresh (Nat.le_refl _)
  rw [hb]
  refine wpAny_bind (wpAny_alloc ?_)
  have D0 : (s.heap.push ({ cls := .type "dict", data := .dict #[] } : Obj)).get? s.heap.objs.size = some (dictL [] 0) := Heap.get?_push_size _ rfl
  refine wpAny_bind (fill_at (w := w) (ex.zip ws) { s with heap := s.heap.push _ } [] 0 D0 (fun _ h => nomatch h) (fun _ h => nomatch h) (by rw [zip_keys hlw]; exact hn) fun h' B' D' => wpAny_pure ?_)
  have kp : ∀ b u, s.heap.get? b = some u → h'.get? b = some u := fun b u e => by
    rw [B'.2 b (Nat.ne_of_lt (Heap.lt_size e))]
    exact Heap.get?_push_of_some _ e
  have big := StX.env0_big e0
  have new : ObjOk P w (upd H s.heap.objs.size (.dK (kwK ex zs))) h' s.heap.objs.size (.dK (kwK ex zs)) := by
    refine ⟨?_, beq_eq_false_iff_ne.mpr (Ne.symm (Nat.ne_of_lt big)), _, kw_rel r2, kw_dict hlw hn D'⟩
    have : (kwK ex zs).length ≤ ex.length := by
      unfold kwK
      rw [List.length_zip, List.length_map]
      exact Nat.min_le_left _ _
    exact Nat.le_of_lt (small1000 (Nat.le_trans this hz))
  have sz : h'.objs.size = s.heap.objs.size + 1 := B'.1.trans (Heap.size_push _ _)
  have e2 : Env0 P w K mg base A outer { s with heap := h', toks := s.toks + (ex.zip ws).length } (upd H s.heap.objs.size (.dK (kwK ex zs))) := by
    refine ⟨e0.frames, e0.mod, fun b x e => ⟨kp b x (e0.bs b x e).1, ?_⟩, ?_, Heap.FunFrames.of_keeps (fun b x e _ => ⟨x, kp b x e, rfl⟩) e0.funs, fun b hb => ?_, e0.hok.laid kp (Nat.le_refl _) new, e0.bare⟩
    · rw [upd_ne (Nat.ne_of_lt (Heap.lt_size (e0.bs b x e).1))]
      exact (e0.bs b x e).2
    · show base.objs.size ≤ h'.objs.size
      rw [sz]
      exact Nat.le_succ_of_le e0.bsz
    · obtain ⟨_, x, hx, _⟩ := e0.funs.mem hb
      rw [upd_ne (Nat.ne_of_lt (Heap.lt_size hx))]
      exact e0.frf b hb
  have un : Un (frs outer) [] H (upd H s.heap.objs.size (.dK (kwK ex zs))) s.heap h' := Un.laid kp (Nat.le_refl _) hn0
  have z := h _ _ (vs ++ [V.ref s.heap.objs.size]) (us ++ [Value.ref s.heap.objs.size]) e2 un rfl (fun e s' => hCX outer s H _ _ E e s' un kp rfl) (r1.append (.cons rfl .nil)) (by rw [List.length_append, List.length_append, hl1] <;> rfl) ⟨_, hn0, rfl, rfl⟩
  rw [List.zip_append (hl1.symm.trans r1.length)] at z
  exact z
end
end Hf
namespace Hf
open PySem PySem.Spec PyProof.Rows L2
/-! ### f(**d), d a dict of names -/
section
variable {P : Program} {w : World} {A : Around} {E : Value → Shared → Prop} {d a : Addr} {s : Shared}
theorem take_next' {α : Type} {l : List α} {j : Nat} {x : α} (h : l[j]? = some x) : l.take (j + 1) = l.take j ++ [x] := by
  rw [List.take_add_one, h]
  rfl
theorem find_new {kvs : List (Key × Value)} {k : Key} {key : Value} {Q : Option Nat → Shared → Prop} (hkey : (mixKind P w).is k key = true) (hm : s.heap.DictOf (mixKind P w) d kvs) (hk : k ∉ kvs.map (·.1)) (q : Q none s) : wpAny (model P w) A (dictFind d key ((mixKind P w).hash k)) Q E s := by
  obtain ⟨o, es, ep, ho, hc, hd, hks, hp, hn⟩ := hm
  refine wpAny_dictFind_of hkey ho hd hks ?_
  have e : (es.findIdx? fun e => (mixKind P w).is k e.key) = none := by
    have h1 := hp.findIdx k
    have h2 : (kvs.findIdx? fun kv => decide (kv.1 = k)) = none := by
      rw [List.findIdx?_eq_none_iff]
      intro kv hkv
      exact decide_eq_false fun z => hk (List.mem_map.mpr ⟨kv, hkv, z⟩)
    rw [h2] at h1
    obtain ⟨l⟩ := es
    simpa using h1
  rw [e]
  exact q
theorem put_new {kvs : List (Key × Value)} {k : Key} {key v : Value} {Q : Unit → Shared → Prop} (hkey : (mixKind P w).is k key = true) (hm : s.heap.DictOf (mixKind P w) d kvs) (hk : k ∉ kvs.map (·.1)) (hz : kvs.length ≤ 1000)
    (hQ : ∀ h', h'.DictOf (mixKind P w) d (kvs ++ [(k, v)]) → Heap.SameBut d s.heap h' → Q () { s with heap := h' }) : wpAny (model P w) A (dictPut d ((mixKind P w).hash k) key v) Q E s := by
  unfold dictPut
  refine wpAny_bind (find_new hkey hm hk ?_)
  obtain ⟨o, es, ep, ho, hc, hd, hks, hp, hn⟩ := hm
  have hes : es.size ≤ sizeLine := by
    have e1 := hp.length
    have e2 : es.toList.length = es.size := by simp
    have := small1000 hz
    omega
  refine wpAny_updateDictKeys (hz := hes) ho hd (hQ _ ⟨_, _, ep + 1, Heap.get?_update_self _ ho (Obj.isFreed_of_dict (Obj.data_mapDictKeys hd _)), hc.mapDictKeys _, Obj.data_mapDictKeys hd _, hks.push hkey _, ?_, ?_⟩ (Heap.SameBut.update ..))
  · have := hp.append hkey ((mixKind P w).hash k) v
    obtain ⟨l⟩ := es
    simpa using this
  · rw [List.map_append, List.nodup_append]
    refine ⟨hn, by simp, ?_⟩
    intro x hx b hb
    simp only [List.map_cons, List.map_nil, List.mem_singleton] at hb
    subst hb
    exact fun e => hk (e ▸ hx)
theorem merge_new {more : List (Key × Value)} {Q : Unit → Shared → Prop} (had : a ≠ d) (hsm : (a == sysModules) = false) (hd : s.heap.DictOf (mixKind P w) d []) (ho : s.heap.DictOf (mixKind P w) a more) (hz : more.length ≤ 1000)
    (hQ : ∀ h', h'.DictOf (mixKind P w) d more → Heap.SameBut d s.heap h' → Q () { s with heap := h' }) : wpAny (model P w) A (mergeMapping d (.ref a) true) Q E s := by
  obtain ⟨od, esd, epd, hod, hcd, hdd, hkd, hpd, hnd⟩ := id hd
  obtain ⟨oo, eso, epo, hoo, hco, hdo, hko, hpo, hno⟩ := id ho
  have tI : s.TypeIs (.ref a) "dict" := ⟨_, hoo, hco.1⟩
  have hlen : more.length = eso.size := by rw [← hpo.length]; simp
  have loop : wpAny (model P w) A (do
      let l ← dictEntries a
      let size : Nat := l.size
      let epoch ← dictEpoch a
      forIn (List.range size) PUnit.unit fun i (_ : PUnit) => (do
          let l' ← dictEntries a
          match l'[i]? with
            | some e => do
              holding [e.key, e.val]
                  (have __do_jp := fun (__r : Unit) => dictPut d e.hash e.key e.val;
                  if true = true then do
                    let f ← dictFind d e.key e.hash
                    if f.isSome = true then do
                        rule "dict.merge.duplicate-key"
                        let x ← newExc (Value.type "KeyError") [e.key]
                        let __r ← raiseNew x
                        __do_jp __r
                      else __do_jp ()
                  else __do_jp ())
              let ep' ← dictEpoch a
              if (ep' != epoch) = true then do
                  (unsupported "dict.changed-during-merge" : Sem PUnit)
                  pure (ForInStep.yield PUnit.unit)
                else pure (ForInStep.yield PUnit.unit)
            | _ => do
              (unsupported "dict.changed-during-merge" : Sem PUnit)
              pure (ForInStep.yield PUnit.unit) : Sem (ForInStep PUnit))
      pure ()) Q E s := by
    refine wpAny_bind (wpAny_dictEntries hoo hdo ?_)
    refine wpAny_bind (wpAny_dictEpoch hoo hdo ?_)
    refine wpAny_bind ?_
    refine wpAny_forIn_list _
      (fun rest _ s' => ∃ h' i, s' = { s with heap := h' } ∧ rest = (List.range eso.size).drop i ∧ i ≤ eso.size ∧ h'.DictOf (mixKind P w) d (more.take i) ∧ h'.get? a = some oo ∧ Heap.SameBut d s.heap h')
      _ ?_ ?_ _ _ ⟨s.heap, 0, rfl, rfl, Nat.zero_le _, by simpa using hd, hoo, Heap.SameBut.refl _ _⟩
    · rintro x rest b s' ⟨h', i, rfl, hr, hi, hd', hoo', hs'⟩
      have hlt : i < eso.size := by
        rcases Nat.lt_or_ge i eso.size with h | h
        · exact h
        · rw [List.drop_of_length_le (by rw [List.length_range]; exact h)] at hr
          cases hr
      rw [List.drop_eq_getElem_cons (by rw [List.length_range]; exact hlt)] at hr
      injection hr with h1 h2
      rw [List.getElem_range] at h1
      subst h1
      refine wpAny_bind (wpAny_dictEntries hoo' hdo ?_)
      rw [Array.getElem?_eq_getElem hlt]
      obtain ⟨kv, hkv⟩ : ∃ kv, more[x]? = some kv := ⟨more[x]'(by rw [hlen]; exact hlt), List.getElem?_eq_getElem _⟩
      obtain ⟨k, v⟩ := kv
      obtain ⟨hkey, hval⟩ := hpo.get? (e := eso[x]) (by simp [hlt]) hkv
      obtain ⟨k', hkey', hhash⟩ := hko eso[x] (Array.getElem_mem hlt)
      obtain rfl : k' = k := (mixKind P w).inj _ _ _ hkey' hkey
      have tk := take_next' hkv
      have hnew : k' ∉ (more.take x).map (·.1) := by
        have nd : ((more.take (x + 1)).map (·.1)).Nodup := by
          rw [List.map_take]
          exact hno.sublist (List.take_sublist _ _)
        rw [tk, List.map_append, List.nodup_append] at nd
        exact fun z => nd.2.2 _ z k' (by simp) rfl
      show wpAny _ _ (holding [eso[x].key, eso[x].val] _ >>= _) _ _ _
      rw [hhash, hval]
      refine wpAny_bind (wpAny_holding ?_)
      show wpAny _ _ ((dictFind d eso[x].key ((mixKind P w).hash k')) >>= _) _ _ _
      refine wpAny_bind (find_new hkey hd' hnew ?_)
      show wpAny _ _ (dictPut d ((mixKind P w).hash k') eso[x].key v) _ _ _
      refine put_new hkey hd' hnew (by rw [List.length_take]; omega) fun h'' hd'' hs'' => ?_
      have hoo'' : h''.get? a = some oo := (hs''.2 a had).trans hoo'
      refine wpAny_bind (wpAny_dictEpoch hoo'' hdo ?_)
      rw [if_neg (by simp)]
      exact wpAny_pure ⟨h'', x + 1, rfl, h2, hlt, by rw [tk]; exact hd'', hoo'', hs'.trans hs''⟩
    · rintro b s' ⟨h', i, rfl, hr, hi, hd', hoo', hs'⟩
      have hin : i = eso.size := by
        rcases Nat.lt_or_ge i eso.size with h | h
        · rw [List.drop_eq_getElem_cons (by rw [List.length_range]; exact h)] at hr
          cases hr
        · exact Nat.le_antisymm hi h
      refine wpAny_pure (hQ h' ?_ hs')
      rw [hin, ← hlen, List.take_length] at hd'
      exact hd'
  unfold mergeMapping
  refine wpAny_bind (wpAny_isInstance tI isSubtype_dict_dict ?_)
  rw [if_pos rfl]
  refine wpAny_bind (wpAny_specialOf tI F.slot_dict_iter.lookup ?_)
  refine wpAny_bind (wpAny_pure ?_)
  dsimp only
  rw [show ((some (Value.builtin "dict.__iter__") : Option Value) == some (Value.builtin "dict.__iter__")) = true from by simp]
  dsimp only
  rw [if_neg (by rw [hsm]; exact Bool.false_ne_true)]
  refine wpAny_bind (wpAny_dictEntries hod hdd ?_)
  have he : esd.isEmpty = true := by
    have e1 : esd.toList = [] := List.length_eq_zero_iff.mp hpd.length
    have e2 : esd = #[] := by simpa using e1
    rw [e2]
    rfl
  rw [if_pos he]
  refine wpAny_bind (wpAny_dictEntries hoo hdo ?_)
  refine wpAny_bind (wpAny_forIn_array' _ (fun rest _ s' => s' = s ∧ ∀ e ∈ rest, e ∈ eso) _ ?_ ?_ _ _ ⟨rfl, fun e he => by simpa using he⟩)
  · rintro x rest b s' ⟨rfl, hm⟩
    obtain ⟨k, hk, _⟩ := hko x (hm x List.mem_cons_self)
    rcases keyIs_shape hk with ⟨i, t, _, e⟩ | ⟨y, t, _, e⟩ <;>
    · rw [e]
      exact wpAny_pure ⟨rfl, fun z hz => hm z (List.mem_cons_of_mem _ hz)⟩
  · rintro b s' ⟨rfl, _⟩
    exact loop
end
theorem kw_split : ∀ {ex : List Str} {zs : List V} {vs : List (Key × Value)}, zs.length = ex.length → KV (kwK ex zs) vs → ∃ ws, vs = kwV ex ws ∧ Vals zs ws
  | [], [], vs, _, h => by
    have h' : KV [] vs := h
    cases h'
    exact ⟨[], rfl, .nil⟩
  | k :: ex, z :: zs, vs, hl, h => by
    have h' : KV ((Sum.inr k, z) :: kwK ex zs) vs := h
    cases h' with
    | @cons _ q _ qs r t =>
      obtain ⟨ws, rfl, V1⟩ := kw_split (Nat.succ.inj hl) t
      obtain ⟨q1, q2⟩ := q
      obtain ⟨e, rv⟩ := r
      dsimp only at e rv
      subst e
      exact ⟨q2 :: ws, rfl, .cons rv V1⟩
def keyS : Value → Str
  | .str s _ => s
  | _ => Str.empty
section
variable {P : Program} {w : World} {A : Around} {E : Value → Shared → Prop} {d : Addr} {s : Shared}
theorem pairs_kw : ∀ {es : List DictEntry} {ex : List Str} {ws : List Value}, ex.length = ws.length → PySem.Pairs (mixKind P w) es (kwV ex ws) → (es.map fun e => (keyS e.key, e.val)) = ex.zip ws ∧ ∀ e ∈ es, ∃ x t, e.key = .str x t
  | es, [], [], _, h => by
    have h' : PySem.Pairs (mixKind P w) es [] := h
    cases h'
    exact ⟨rfl, fun e he => nomatch he⟩
  | es, k :: ex, u :: ws, hl, h => by
    have h' : PySem.Pairs (mixKind P w) es ((Sum.inr k, u) :: kwV ex ws) := h
    cases h' with
    | @cons e _ es' _ h1 h2 t =>
      obtain ⟨q1, q2⟩ := pairs_kw (Nat.succ.inj hl) t
      rcases keyIs_shape (k := Sum.inr k) h1 with ⟨i, t, z, _⟩ | ⟨y, t, z, ek⟩
      · cases z
      · cases z
        refine ⟨?_, fun e' he => ?_⟩
        · show (keyS e.key, e.val) :: _ = (k, u) :: ex.zip ws
          rw [q1, ek, h2]
          rfl
        · rcases List.mem_cons.mp he with rfl | he
          · exact ⟨_, _, ek⟩
          · exact q2 e' he
theorem kws_in {f : Value} {ex : List Str} {ws : List Value} {Q : List (Str × Value) → Shared → Prop} (hl : ex.length = ws.length) (hm : s.heap.DictOf (mixKind P w) d (kwV ex ws)) (q : Q (ex.zip ws) s) : wpAny (model P w) A (keywordsIn f d) Q E s := by
  obtain ⟨o, es, ep, ho, hc, hd, hk, hp, hn⟩ := hm
  obtain ⟨e1, e2⟩ := pairs_kw hl hp
  unfold keywordsIn
  refine wpAny_bind (wpAny_dictEntries ho hd ?_)
  refine wpAny_bind (wpAny_forIn_array' _ (fun rest b s' => s' = s ∧ (∀ e ∈ rest, ∃ x t, e.key = .str x t) ∧ b ++ rest.map (fun e => (keyS e.key, e.val)) = ex.zip ws) _ ?_ ?_ _ _ ⟨rfl, e2, by rw [List.nil_append]; exact e1⟩)
  · rintro x rest b s' ⟨rfl, hm, he⟩
    obtain ⟨y, t, ek⟩ := hm x List.mem_cons_self
    rw [List.map_cons, ek] at he
    rw [ek]
    exact wpAny_pure ⟨rfl, fun z hz => hm z (List.mem_cons_of_mem _ hz), by rw [List.append_assoc]; exact he⟩
  · rintro b s' ⟨rfl, _, he⟩
    rw [List.map_nil, List.append_nil] at he
    rw [he]
    exact wpAny_pure q
end
theorem upd_twice {H : Hp} {a : Addr} {x y : HO} : upd (upd H a x) a y = upd H a y := by
  funext b
  by_cases h : b = a
  · subst h
    rw [upd_same, upd_same]
  · rw [upd_ne h, upd_ne h, upd_ne h]
section
variable {X : Cx} {pins : List (Addr × Obj)} {σ : L2.St} {H : Hp} {s : Shared} {a : Addr}
/-- f(**d) -/
theorem args_star {ex : List Str} {zs : List V} {f : Value} {lone : Bool} {ev : Sem Value} {Q : Args → Shared → Prop} (I : L2.Inv X pins σ H s) (ha : H a = some (.dK (kwK ex zs))) (hl : zs.length = ex.length) (hz : ex.length ≤ 1000)
    (hev : ∀ (s' : Shared) (H' : Hp), L2.Inv X pins σ H' s' → ∀ R : Value → Shared → Prop, (∀ s'', L2.Inv X pins σ H' s'' → R (.ref a) s'') → wpAny (model X.prog X.w) X.A ev R X.xe s')
    (q : ∀ (s' : Shared) (d : Addr) (ws : List Value), H d = none → L2.Inv X pins σ (upd H d (.dK (kwK ex zs))) s' → Vals zs ws → Q ⟨[], ex.zip ws⟩ s') : wpAny (model X.prog X.w) X.A (evalArgs f lone [] [(none, ev)]) Q X.xe s := by
  have hn : H s.heap.objs.size = none := I.hok.fresh (Nat.le_refl _)
  have had : a ≠ s.heap.objs.size := fun z => by rw [z, hn] at ha; cases ha
  unfold evalArgs
  cases lone <;>
  · dsimp only
    refine wpAny_bind (wpAny_bind (wpAny_pure (wpAny_pure ?_)))
    refine wpAny_bind (wpAny_pure ?_)
    refine wpAny_holding ?_
    rw [if_neg (by simp)]
    refine wpAny_bind ?_
    unfold mergedKeywords
    refine wpAny_bind (wpAny_alloc ?_)
    have I2 : L2.Inv X pins σ (upd H s.heap.objs.size (.dK [])) { s with heap := s.heap.push { cls := .type "dict", data := .dict #[] } } := I.laid (a := s.heap.objs.size) (o := .dK []) (t' := s.toks) (fun _ _ q => Heap.get?_push_of_some _ q) (Nat.le_refl _) (dk_empty s.heap I.big)
    refine wpAny_bind (wpAny_holding ?_)
    dsimp only
    refine wpAny_bind ?_
    rw [List.forIn_cons]
    refine wpAny_bind ?_
    dsimp only
    refine wpAny_bind ?_
    rw [if_pos (by rfl)]
    refine wpAny_pure ?_
    refine wpAny_bind (hev _ _ I2 _ fun s2 I3 => ?_)
    have ha2 : upd H s.heap.objs.size (.dK []) a = some (.dK (kwK ex zs)) := by rw [upd_ne had]; exact ha
    obtain ⟨z1, sm1, vs, rel, dd⟩ := dk_of I3.hok ha2
    obtain ⟨z2, sm2, vs0, rel0, dd0⟩ := dk_of I3.hok (show upd H s.heap.objs.size (.dK []) s.heap.objs.size = some (.dK []) from upd_same)
    obtain ⟨ws, rfl, rv⟩ := kw_split hl rel
    have lw : ex.length = ws.length := hl.symm.trans rv.length
    cases rel0
    refine wpAny_bind (wpAny_onRaise (wpAny_holding (wpAny_tryCatch (wpAny_onRaise (merge_new had sm1 dd0 dd ?_ fun h' dd' sb => ?_)))))
    · unfold kwV
      rw [List.length_zip, List.length_map]
      exact Nat.le_trans (Nat.min_le_left _ _) hz
    have I4 := d_write (t' := s2.toks) I3 (by rw [upd_same]; trivial) sb (by obtain ⟨o, es, ep, e, _⟩ := dd'; exact ⟨o, e⟩) (dk_new z1 sm2 rel dd')
    rw [upd_twice] at I4
    refine wpAny_pure ?_
    dsimp only
    rw [List.forIn_nil]
    refine wpAny_pure ?_
    rw [if_pos (by rfl)]
    refine wpAny_pure (wpAny_pure ?_)
    refine wpAny_bind (wpAny_pure ?_)
    refine wpAny_bind (wpAny_holding (kws_in lw dd' ?_))
    exact wpAny_pure (q _ _ ws hn I4 rv)
end
end Hf
namespace Hf
open PySem PySem.Spec PyProof.Rows L2
/-! ### a def with **rest called by keywords; super().m(**rest) -/
def kwSp (n1 : Nat) (ex : List Str) (sp : Sp) : Sp := fun vs H Q E => ∃ v zs1 zs2, vs = v :: (zs1 ++ zs2) ∧ zs1.length = n1 ∧ zs2.length = ex.length ∧ ∀ d, H d = none → sp (v :: (zs1 ++ [V.ref d])) (upd H d (.dK (kwK ex zs2))) Q E
section
variable {P : Program} {w : World} {K : PySem.W.Frag} {mg : Str → Option Value} {base : Heap} {CX : CXT} {k : Nat} {f D cc cda : Addr} {name qual : Str} {params : Arguments} {body : List Stmt} {scope : Scope} {dV kV doc pm ct oc : Value} {an od : Option Addr} {osl : Array (Option Value)}
  {N : List Str} {sp : Sp}
/-- a def with the cell __class__ and **pr -/
theorem callK_of {self pr : Str} {ks1 ex : List Str} (lk : K.lookup f = some ⟨oc, od, .func (PySem.W.ksFn name qual params body scope dV kV doc pm an (.ref cda) ct cc), osl⟩) (hcd : PySem.W.codeIn K (.ref cda) qual = true)
    (S : NdefX.NScope N ((self :: ks1) ++ [pr]) ["__class__"] scope) (U : SupD P K mg D cc cda) (hCX : StX.CXUp CX) (hn : ex.Nodup) (hz : ex.length ≤ 1000)
    (hb : ∀ (u : Value) (us1 ws2 : List Value), us1.length = ks1.length → ws2.length = ex.length → bindArgs (PySem.W.ksFn name qual params body scope dV kV doc pm an (.ref cda) ct cc) ⟨[u], (ks1 ++ ex).zip (us1 ++ ws2)⟩ =
      ((alloc ({ cls := .type "dict", data := .dict #[] } : Obj) : Sem Addr) >>= fun d => fillS d (ex.zip ws2) >>= fun _ => pure ((self :: ks1).zip (u :: us1) ++ [(pr, Value.ref d)])))
    (hbody : ∀ (A : Around) (outer : List Env) (s : Shared) (H : Hp) (vs : List V) (Q : VK) (E : XK), Room k (A.deeper (NdefX.envF (nfS name qual params body scope cc cda) f s.heap.objs.size)) → sp vs H Q E →
      ∃ t, PWs (NdefX.ncx CX P w K mg base N (nfS name qual params body scope cc cda) f A outer s H E) body body t ∧ t { nx := fun _ H' => Q .non H', rt := Q } (NdefX.startF N vs [none]) H) :
    CallK P w K mg base CX (k + 1) f (ks1 ++ ex) (kwSp ks1.length ex sp) := by
  refine ⟨fun A outer s H v u zs ws Q E hr e0 rv rz hl hsp => ?_⟩
  obtain ⟨v', zs1, zs2, ev, l1, l2, q⟩ := hsp
  injection ev with ev1 ev2
  subst ev1 ev2
  obtain ⟨u1, u2, rfl, r1, r2⟩ := StX.vals_split rz
  have lu1 : u1.length = ks1.length := r1.length.symm.trans l1
  have lu2 : u2.length = ex.length := r2.length.symm.trans l2
  exact run_bndW lk hcd S U hr e0 (bnd_kw (vs := v :: zs1) (us := u :: u1) (qs := self :: ks1) hCX e0 (hb u u1 u2 lu1 lu2) (.cons rv r1) (by rw [List.length_cons, List.length_cons, l1]) r2 l2 hn hz) fun s2 H2 xs ⟨d, hd, ex', eH⟩ hr' => by
    subst ex' eH
    exact hbody A outer s2 _ _ Q E hr' (q d hd)
end
theorem callWith_ofS {M : Model} {A : Around} {E : Value → Shared → Prop} {s : Shared} {f : Value} {first : List Value} {pos : Pos} {Q : Value → Shared → Prop} {P : Heap → Prop} {args : List (Bool × Sem Value)} {keywords : List (Option Str × Sem Value)} (hstar : (args.any (·.1) || keywords.any (·.1.isNone)) = true)
    (hk : ∀ h, P h → ∃ k, (k = Keeper.frame ∨ k = Keeper.machine ∨ k = Keeper.boundFrame) ∧ PySem.W.Looks M h (keeperOf f) k)
    (h : wpAny M A (evalArgs f true args keywords) (fun a s₁ => P s₁.heap ∧ wpAny M A (call f (first ++ a.pos) a.kw) Q E s₁) E s) : wpAny M A (callWith pos f first args keywords) Q E s := by
  unfold callWith
  refine wpAny_bind (wpAny_holding (wpAny_mono h (fun a s₁ h₁ => wpAny_bind (wpAny_standAt ?_)) fun _ _ x => x))
  obtain ⟨k, hk', L⟩ := hk _ h₁.1
  simp only [hstar]
  refine wpAny_bind (L.here ?_)
  have tail : ∀ {t : Sem Value}, wpAny M A t Q E s₁ → wpAny M A (t >>= fun r => holding [r] point >>= fun _ => pure r) Q E s₁ :=
    fun ht => wpAny_bind (wpAny_mono ht (fun r s₂ hr => wpAny_bind (wpAny_holding (wpAny_point (wpAny_pure hr)))) fun _ _ x => x)
  have marked (mk : Value) : wpAny M A (callMarked mk f (first ++ a.pos) a.kw) Q E s₁ := by unfold callMarked; exact Calls.wpAny_keep h₁.2
  rcases hk' with rfl | rfl | rfl <;> dsimp only
  · exact tail (marked _)
  · exact tail (wpAny_operate' h₁.2)
  · exact tail (wpAny_operate' h₁.2)
def tSupR (C : Addr) (i : Nat) (ex : List Str) (sp : Sp) (E1 : XK) (u : TS) : TS := fun Dn σ H => ∃ (a dx r : Addr) (fs : List (Str × V)) (zs : List V), σ[0]? = some (some (.ref a)) ∧ H a = some (.ins C dx fs) ∧ σ[i]? = some (some (.ref r)) ∧ H r = some (.dK (kwK ex zs)) ∧ zs.length = ex.length ∧
  ∀ d, H d = none → sp (.ref a :: zs) (upd H d (.dK (kwK ex zs))) (fun _ H' => u Dn σ H') E1
section
variable {M : Model} {A : Around} {c : Code} {E : Value → Shared → Prop} {s : Shared} {env : Env}
/-- o.m(.., **d) right in a frame -/
theorem at_callA {call o : Expr} {m : Str} {apos pos : Pos} {a1 : List (Bool × Sem Value)} {a2 : List (Option Str × Sem Value)} {Q : Value → Shared → Prop}
    (h : PySem.wpAt M A c (attributeBase o m env (eval o env)) (fun ov s1 => wpAny M A (starM ov m) (fun fx s2 => wpAny M A (callWith pos fx.1 fx.2 a1 a2) Q E s2) E s1) E s)
    (he : eval call env = (do
      let ov ← attributeBase o m env (eval o env)
      standAt apos.atName
      let (f, first) ← holding [ov] (starM ov m)
      callWith pos f first a1 a2)) : PySem.wpAt M A c (eval call env) Q E s := by
  rw [he]
  exact PySem.wpAt_bind (PySem.wpAt_mono h (fun ov s1 h1 => PySem.wpAt_of_wpAny (wpAny_bind (wpAny_standAt (wpAny_bind (wpAny_holding (wpAny_mono h1 (fun fx s2 h2 => h2) fun _ _ x => x)))))) fun _ _ x => x)
end
section
variable {P : Program} {w : World} {K : PySem.W.Frag} {mg : Str → Option Value} {base : Heap} {CX : CXT} {f D cc cda : Addr} {name qual : Str} {params : Arguments} {body : List Stmt} {scope : Scope} {dV kV doc pm ct oc : Value} {an od : Option Addr} {osl : Array (Option Value)}
  {N ps : List Str} {A : Around} {outer : List Env} {s : Shared} {H0 : Hp} {E : XK} {p0 p1 p2 p4 p5 pn kp : Pos} {ar : Arg}
/-- super().m(**rest) as a statement -/
theorem pw_supR (lk : K.lookup f = some ⟨oc, od, .func (PySem.W.ksFn name qual params body scope dV kV doc pm an (.ref cda) ct cc), osl⟩) (S : NdefX.NScope N ps ["__class__"] scope) (U : SupD P K mg D cc cda) (h0 : ps[0]? = some ar.arg)
    (har : (params.posonlyargs ++ params.args).head? = some ar) (hks0 : scope.names.lookup ("super" : Str) = some .globalImplicit) {C : Addr} {m rn : Str} {k j i : Nat} {ex : List Str} {sp : Sp} {E1 : XK} {rest : List Stmt} {u : TS}
    (SM : SupMK P w K mg base CX k C D m ex sp) (hr : Room j (NdefX.ncx CX P w K mg base N (nfS name qual params body scope cc cda) f A outer s H0 E).A) (hx : Passes CX (NdefX.ncx CX P w K mg base N (nfS name qual params body scope cc cda) f A outer s H0 E) E1)
    (hv : PE (NdefX.ncx CX P w K mg base N (nfS name qual params body scope cc cda) f A outer s H0 E) (.Name rn pn) (tVar i)) (hz : ex.length ≤ 1000) (hrest : PWs (NdefX.ncx CX P w K mg base N (nfS name qual params body scope cc cda) f A outer s H0 E) body rest u) (hk : k ≤ j := by decide) (hn : (m == ("__class__" : Str)) = false := by decide)
    (he : eval (.Call (.Attribute (.Call (.Name "super" p0) [] [] p1) m p2) [] [⟨none, .Name rn pn, kp⟩] p4) (NdefX.ncx CX P w K mg base N (nfS name qual params body scope cc cda) f A outer s H0 E).env = (do
      let ov ← attributeBase (.Call (.Name "super" p0) [] [] p1) m (NdefX.ncx CX P w K mg base N (nfS name qual params body scope cc cda) f A outer s H0 E).env (eval (.Call (.Name "super" p0) [] [] p1) (NdefX.ncx CX P w K mg base N (nfS name qual params body scope cc cda) f A outer s H0 E).env)
      standAt p2.atName
      let (f', first) ← holding [ov] (starM ov m)
      callWith p4 f' first (backTo p4 (starEach [] (NdefX.ncx CX P w K mg base N (nfS name qual params body scope cc cda) f A outer s H0 E).env)) (backToKw p4 (keywordEach [⟨none, .Name rn pn, kp⟩] (NdefX.ncx CX P w K mg base N (nfS name qual params body scope cc cda) f A outer s H0 E).env))) := by rfl)
    (hi : interactive (NdefX.ncx CX P w K mg base N (nfS name qual params body scope cc cda) f A outer s H0 E).env = false := by rfl) (hsw : swapsWith (.Call (.Attribute (.Call (.Name "super" p0) [] [] p1) m p2) [] [⟨none, .Name rn pn, kp⟩] p4) none p5.line (NdefX.ncx CX P w K mg base N (nfS name qual params body scope cc cda) f A outer s H0 E).env = pure false := by rfl) :
    PWs (NdefX.ncx CX P w K mg base N (nfS name qual params body scope cc cda) f A outer s H0 E) body (.Expr (.Call (.Attribute (.Call (.Name "super" p0) [] [] p1) m p2) [] [⟨none, .Name rn pn, kp⟩] p4) p5 :: rest) (tSupR C i ex sp E1 u) := by
  obtain ⟨g, hm, ht, hf, F⟩ := SM.at_
  refine ⟨fun pins s1 σ H Dn I h => ?_⟩
  obtain ⟨a, dx, r, fs, zs, hσ, hin, hσi, hr1, hlz, q⟩ := h
  refine PySem.ks_wpAt_execs_cons (PySem.ks_wpAt_Expr_any (hi := hi) (hs := hsw) (at_callA (super_atA lk S U h0 har hks0 I hσ hin SM.sub hm ht hn fun q' s' I2 hb => ?_) he))
  refine callWith_ofS (first := []) (P := PySem.W.MethP K q' g (.ref a)) rfl (PySem.W.keeps_M hf) ?_
  refine args_star I2 hr1 hlz hz (fun s3 H3 I3 R hR => ?_) fun s3 d ws hd I3 rz => ?_
  · refine wpAny_bind (thn (hv.run _ s3 σ H3 (fun x H' => x = .ref r ∧ H' = H3) I3 ⟨_, hσi, rfl, rfl⟩) fun u s4 ⟨x, H4, I4, rx, e1, e2⟩ => wpAny_bind (wpAny_standAt (wpAny_pure ?_)))
    subst e1 e2
    cases rx
    exact hR _ I4
  refine ⟨⟨ClX.pin_at I3, I3.kIn⟩, ?_⟩
  have z : wpAny (model P w) (NdefX.ncx CX P w K mg base N (nfS name qual params body scope cc cda) f A outer s H0 E).A (call (.ref q') ([] ++ []) (ex.zip ws)) (EP (NdefX.ncx CX P w K mg base N (nfS name qual params body scope cc cda) f A outer s H0 E) ((q', PySem.W.methodObj (.ref g) (.ref a)) :: pins) σ (fun _ H' => u Dn σ H')) (NdefX.ncx CX P w K mg base N (nfS name qual params body scope cc cda) f A outer s H0 E).xe s3 := by
    refine wpAny_call (PySem.W.method_call (ClX.pin_at I3) (codeAny_mono (run_callK F (hr.mono hk) hx I3 (v := .ref a) (u := .ref a) rfl rz hlz (q d hd)) fun r s' z => ?_))
    cases r with
    | error e => exact z
    | ok fl => cases fl <;> exact z
  refine thn (thn z fun _ _ y => ClX.unpinE y) fun v s4 y => ?_
  obtain ⟨v', H', I4, rv, q4⟩ := y
  exact hrest.run pins s4 σ H' Dn I4 q4
end
end Hf
namespace L2
open PySem PySem.Spec PyProof.Rows GenW
/-! ### a for within a generator -/
section
variable {M : Model} {A : Around} {R : GenEnd} {Y : Protocol} {n : Nat} {s₀ s : Shared} {c : Code} {fs : List Frame} {env : Env} {tg iter : Expr} {body : List Stmt} {pos : Pos}
theorem seg_ForH {K : Flow → Sem PySem.Fin} {J : Value → Sem PySem.Fin} {gd : Bool → Bool} {lv : List Value → List Value} (hs : ∀ x, foldedSetIterable iter env x = pure x)
    (h : wpAny M (A.over c fs) (eval iter env) (fun x s1 => wpAny M (A.over c fs) (pyIter x) (fun it s2 => ∀ p, Seg M A R Y n s₀ (.forLoop tg it body [] env) (M.den (.forLoop tg it body [] env))
      (.ret (fun r => ((match r with | .ok f => (.pure f : Sem Flow) | .error e => .raise e).onRaise (cameBack env)).wrap K J gd lv) none (gd false) (lv []) c p [] :: fs) s2) (fun e s' => Seg M A R Y n s₀ c (J e) fs s') s1) (fun e s' => Seg M A R Y n s₀ c (J e) fs s') s) :
    Seg M A R Y n s₀ c ((exec (.For tg iter body [] pos) env).wrap K J gd lv) fs s := by
  rw [exec_For]
  refine seg_bind_wrap (wpAny_standAt ?_)
  refine seg_bind_wrap (wpAny_mono h (fun x s1 h1 => ?_) fun _ _ z => z)
  refine seg_bind_wrap (wpAny_of_eq (hs x) ?_)
  refine seg_bind_wrap (wpAny_standAt ?_)
  refine seg_bind_wrap (wpAny_holding (wpAny_mono h1 (fun it s2 h2 => ?_) fun _ _ z => z))
  exact seg_call h2
end
section
variable {P : Program} {w : World} {A : Around} {R : GenEnd} {Y : Protocol} {n : Nat} {s₀ s : Shared} {fs : List Frame} {env : Env} {tg : Expr} {it : Value} {body : List Stmt}
def ExT (env : Env) (e : Value) : Sem PySem.Fin := (do noteFrame e env; theTreesLotGoes e : Sem Unit).wrap (fun _ => .raise e) .raise id id
theorem seg_forLoopH
    (h : wpAny (model P w) (A.over (.forLoop tg it body [] env) fs) (pyNext it) (fun r s1 => match r with
      | none => Seg (model P w) A R Y n s₀ (.forLoop tg it body [] env) (.pure (.again (.block [] env))) fs s1
      | some v => wpAny (model P w) (A.over (.forLoop tg it body [] env) fs) (letOwnedTupleGo tg it v) (fun _ s2 => wpAny (model P w) (A.over (.forLoop tg it body [] env) fs) (assign tg env v) (fun _ s3 =>
          Seg (model P w) A R Y n s₀ (.forLoop tg it body [] env) ((execs body env).wrap (fun f => match f with
            | .next | .cont => .pure (.again (.forLoop tg it body [] env))
            | .brk => .pure (.done .next)
            | .ret v => .pure (.done (.ret v))) (ExT env) id id) fs s3)
          (fun e s' => Seg (model P w) A R Y n s₀ (.forLoop tg it body [] env) (ExT env e) fs s') s2) (fun e s' => Seg (model P w) A R Y n s₀ (.forLoop tg it body [] env) (ExT env e) fs s') s1)
      (fun e s' => Seg (model P w) A R Y n s₀ (.forLoop tg it body [] env) (ExT env e) fs s') s) :
    Seg (model P w) A R Y n s₀ (.forLoop tg it body [] env) ((model P w).den (.forLoop tg it body [] env)) fs s := by
  show Seg _ A R Y n s₀ _ ((forTurn tg it body [] env).onRaise (fun x => do noteFrame x env; theTreesLotGoes x)) fs s
  unfold forTurn
  rw [Sem.onRaise_eq_wrap]
  have ex : ∀ (e : Value) (s' : Shared), Seg (model P w) A R Y n s₀ (.forLoop tg it body [] env) (ExT env e) fs s' → Seg (model P w) A R Y n s₀ (.forLoop tg it body [] env) ((do noteFrame e env; theTreesLotGoes e : Sem Unit).bind fun _ => (.raise e : Sem PySem.Fin)) fs s' := fun e s' z => by
    rw [Sem.bind_eq_wrap]
    exact z
  refine seg_bind_wrap (wpAny_standAt ?_)
  refine seg_bind_wrap (wpAny_onRaise (wpAny_mono h (fun r s1 h1 => ?_) fun e s' he => wpAny_standAt (ex e s' he)))
  cases r with
  | none => exact h1
  | some v =>
    refine seg_bind_wrap (wpAny_mono h1 (fun _ s2 h2 => ?_) fun e s' he => ex e s' he)
    refine seg_bind_wrap (wpAny_mono h2 (fun _ s3 h3 => ?_) fun e s' he => ex e s' he)
    rw [Sem.bind_eq_wrap', Sem.wrap_wrap]
    rw [Sem.wrap_congr (execs body env) _ _ (K' := fun f => match f with
            | .next | .cont => .pure (.again (.forLoop tg it body [] env))
            | .brk => .pure (.done .next)
            | .ret v => .pure (.done (.ret v))) (H' := ExT env)
        (fun f => by cases f <;> rfl) (fun e => by unfold ExT; first | exact Sem.bind_eq_wrap _ _ | (show (do noteFrame e env; theTreesLotGoes e : Sem Unit).bind (fun _ => .raise e) = _; rw [Sem.bind_eq_wrap]))]
    exact h3
end
section
variable {X : Cx}
def tGFor (wi : TI) (g : TG) (tb : TGn) : TGn := fun D ys σ H => wi σ H fun J H1 => ∃ W : Nat → Nat → List V → St → Hp → Prop, (∃ m, W 0 m ys σ H1) ∧ ∀ i m ys σ H, W i m ys σ H →
  (J.stop i H ∧ D.nx ys σ H) ∨ (J.go i H ∧ ∃ N : List V → St → Hp → Prop, (∀ ys' σ' H', N ys' σ' H' → ∃ m', m' < m ∧ W (i + 1) m' ys' σ' H') ∧ ∀ x H', J.yld i H x H' → g x σ H' fun σ2 H2 => tb { D with nx := N, ct := N, bk := D.nx } ys σ2 H2)
theorem gs_for {tg iter : Expr} {body : List Stmt} {pos : Pos} {wi : TI} {g : TG} {tb : TGn} (hp : PassesOwn (model X.prog X.w) X.A X.env X.xe) (hc : X.calm = true) (hi : PI X tg iter wi) (hg : PG X tg g) (hb : GSs X body tb)
    (hs : ∀ x, foldedSetIterable iter X.env x = pure x := by intro _; rfl) : GS X (.For tg iter body [] pos) (tGFor wi g tb) := by
  refine ⟨fun A S ip R n ys s₀ c fs K J gd lv s σ H D g' hn k hI ht => ?_⟩
  obtain ⟨acc, cc, r, I⟩ := hI
  refine seg_ForH hs ?_
  rw [g'.over]
  refine wpAny_mono (hi.run _ s σ H _ I ht) (fun v s1 h1 => wpAny_mono h1 (fun itv s2 h2 p => ?_) fun x s' hx => k.exc n s₀ x s' hx) fun x s' hx => k.exc n s₀ x s' hx
  obtain ⟨it, fp, tn, Jt, H2, e, I2, T, st2, f2, W, ⟨m0, w0⟩, turn⟩ := h2
  subst e
  have gl := fun (kk : Result → Sem PySem.Fin) => gc_loop (k := kk) (c' := .forLoop tg (.ref it) body [] X.env) (l := lv []) (kp := []) (p := p) g' rfl rfl
  have stat : ∀ {H' : Hp} {acc' : Array Value} {cc' : Nat}, (∀ b ∈ fp, H' b = none) → ∀ b ∈ fp, FpOk X ((S, lstObj acc' cc') :: ip) H' b := fun {H' acc' cc'} hn b hb => by
    obtain ⟨q0, q1, q2, q3, q4, q5⟩ := f2 b hb
    refine ⟨hn b hb, q1, q2, q3, q4, fun z hz => ?_⟩
    rcases List.mem_append.mp hz with hz | hz
    · exact q5 z (List.mem_append_left _ hz)
    · rcases List.mem_cons.mp hz with hz | hz
      · rw [hz]
        exact q5 (S, lstObj acc cc) (List.mem_append_right _ List.mem_cons_self)
      · exact q5 z (List.mem_append_right _ (List.mem_cons_of_mem _ hz))
  have ee : ∀ (n : Nat) (s₀ : Shared) (x : Value) (s' : Shared), X.xe x s' → Seg (model X.prog X.w) A R (GY X S) n s₀ (.forLoop tg (.ref it) body [] X.env) (ExT X.env x)
      (.ret (fun r => ((match r with | .ok f => (.pure f : Sem Flow) | .error e => .raise e).onRaise (cameBack X.env)).wrap K J gd lv) none (gd false) (lv []) c p [] :: fs) s' := fun n s₀ x s' hx => by
    unfold ExT
    refine seg_wrap ?_
    rw [(gl _).over]
    refine wpAny_bind (wpAny_mono (hp x s' hx) (fun _ s'' hcb => wpAny_theTreesLotGoes ?_) fun y s'' hcb => ?_)
    · exact seg_leaf (.error x) (seg_cameBack g' k hcb)
    · exact seg_leaf (.error y) (seg_cameBack g' k hcb)
  have loop : ∀ (m n i : Nat) (ys : List V) (s₀ s : Shared) (σ : St) (H : Hp) (acc : Array Value) (cc : Nat), n + ys.length = sizeLine → W i m ys σ H → Vals ys acc.toList → Inv X ((S, lstObj acc cc) :: ip) σ H s → tn i s.heap → (∀ b ∈ fp, H b = none) →
      Seg (model X.prog X.w) A R (GY X S) n s₀ (.forLoop tg (.ref it) body [] X.env) ((model X.prog X.w).den (.forLoop tg (.ref it) body [] X.env))
        (.ret (fun r => ((match r with | .ok f => (.pure f : Sem Flow) | .error e => .raise e).onRaise (cameBack X.env)).wrap K J gd lv) none (gd false) (lv []) c p [] :: fs) s := by
    intro m
    induction m using Nat.strongRecOn with
    | ind m ih =>
      intro n i ys s₀ s σ H acc cc hn w r I st fr
      refine seg_forLoopH ?_
      rw [(gl _).over]
      rcases turn i m ys σ H w with ⟨stop, qn⟩ | ⟨go, N, hN, step⟩
      · refine wpAny_mono (T.done X rfl rfl rfl hc i _ s σ H X.xe I (stat fr) st stop) (fun r4 s4 ⟨hr, I4⟩ => ?_) fun x s' hx => ee n s₀ x s' hx
        subst hr
        refine seg_again rfl ?_
        exact seg_leaf (.ok .next) (k.ok n ys s₀ s4 .next hn ⟨σ, H, ⟨acc, cc, r, I4⟩, qn⟩)
      · refine wpAny_mono (T.item X rfl rfl rfl hc i _ s σ H X.xe I (stat fr) st go) (fun r4 s4 ⟨u, hr, h4⟩ => ?_) fun x s' hx => ee n s₀ x s' hx
        subst hr
        refine wpAny_mono h4 (fun _ s5 ⟨x, H5, I5, r5, y5, st5, fr5⟩ => ?_) fun x s' hx => ee n s₀ x s' hx
        have I5' := I5.pinned (stat fr5) (T.obj _ _ st5)
        refine wpAny_mono (hg.run _ s5 σ H5 x u _ I5' r5 (step x H5 y5)) (fun _ s6 ⟨σ6, H6, I6, q6⟩ => ?_) fun x s' hx => ee n s₀ x s' hx
        have gc := gl (fun r => ((match r with | .ok f => (.pure f : Sem Flow) | .error e => .raise e).onRaise (cameBack X.env)).wrap K J gd lv)
        have hip : ∀ q ∈ ip ++ pinsAt fp s5.heap, q.1 ≠ S := by
          intro q hq
          rcases List.mem_append.mp hq with z | z
          · exact gc.ip q z
          · obtain ⟨hb1, _⟩ := of_pinsAt z
            intro w
            have := (stat (acc' := acc) (cc' := cc) fr5 q.1 hb1).2.2.2.2.2 (S, lstObj acc cc) (List.mem_append_right _ List.mem_cons_self)
            exact this w.symm
        have gc' : GC X S (ip ++ pinsAt fp s5.heap) A (.forLoop tg (.ref it) body [] X.env) (.ret (fun r => ((match r with | .ok f => (.pure f : Sem Flow) | .error e => .raise e).onRaise (cameBack X.env)).wrap K J gd lv) none (gd false) (lv []) c p [] :: fs) id :=
          { gc with ip := hip }
        have back : ∀ {ys' : List V} {s3 : Shared} {σ3 : St} {H3 : Hp}, GI X S (ip ++ pinsAt fp s5.heap) ys' σ3 H3 s3 → GI X S ip ys' σ3 H3 s3 := fun {ys' s3 σ3 H3} ⟨a3, c3, r3, I3⟩ => ⟨a3, c3, r3, Inv.unpinned (pins := (S, lstObj a3 c3) :: ip) (pl := pinsAt fp s5.heap) I3⟩
        have again : ∀ {n' : Nat} {ys' : List V} {s₀' s3 : Shared}, n' + ys'.length = sizeLine → (∃ σ3 H3, GI X S (ip ++ pinsAt fp s5.heap) ys' σ3 H3 s3 ∧ N ys' σ3 H3) → Seg (model X.prog X.w) A R (GY X S) n' s₀' (.forLoop tg (.ref it) body [] X.env) (.pure (.again (.forLoop tg (.ref it) body [] X.env)))
            (.ret (fun r => ((match r with | .ok f => (.pure f : Sem Flow) | .error e => .raise e).onRaise (cameBack X.env)).wrap K J gd lv) none (gd false) (lv []) c p [] :: fs) s3 := fun {n' ys' s₀' s3} hn' ⟨σ3, H3, ⟨a3, c3, r3, I3⟩, n3⟩ => by
          obtain ⟨m', hm, w3⟩ := hN ys' σ3 H3 n3
          refine seg_again rfl (ih m' hm n' (i + 1) ys' s₀' s3 σ3 H3 a3 c3 hn' w3 r3 (Inv.unpinned (pins := (S, lstObj a3 c3) :: ip) (pl := pinsAt fp s5.heap) I3) ?_ fun b hb1 => ?_)
          · exact T.keep _ _ _ st5 fun b hb1 o e => (I3.pin (b, o) (List.mem_append_right _ (List.mem_append_right (as := (S, lstObj a3 c3) :: ip) (mem_pinsAt hb1 e)))).1
          · obtain ⟨o, e, d⟩ := T.obj _ _ st5 b hb1
            exact (I3.pin (b, o) (List.mem_append_right _ (List.mem_append_right (as := (S, lstObj a3 c3) :: ip) (mem_pinsAt hb1 e)))).2.1
        refine hb.run A S (ip ++ pinsAt fp s5.heap) R n ys s₀ _ _ _ _ id id s6 σ6 H6 { D with nx := N, ct := N, bk := D.nx } gc' hn ⟨fun n' ys' s₀' s3 f hn' hs => ?_, fun n' s₀' x s3 hx => ee n' s₀' x s3 hx⟩ ⟨acc, cc, r, I6⟩ q6
        cases f with
        | next => exact again hn' hs
        | cont => exact again hn' hs
        | brk =>
          obtain ⟨σ3, H3, G3, q3⟩ := hs
          exact seg_leaf (.ok .next) (k.ok n' ys' s₀' s3 .next hn' ⟨σ3, H3, back G3, q3⟩)
        | ret v =>
          obtain ⟨v3, σ3, H3, G3, rv3, q3⟩ := hs
          exact seg_leaf (.ok (.ret v)) (k.ok n' ys' s₀' s3 (.ret v) hn' ⟨v3, σ3, H3, back G3, rv3, q3⟩)
  exact loop m0 n 0 ys s₀ s2 σ H2 acc cc hn w0 r I2 st2 fun b hb1 => (f2 b hb1).1
end
end L2
namespace Hf
open PySem PySem.Spec PyProof.Rows L2
/-! ### deeds: fills and frames -/
theorem putF_len {f : Str} {v : V} : ∀ {fs : List (Str × V)}, (putF f v fs).length ≤ fs.length + 1
  | [] => by rw [pf_nil]; exact Nat.le_refl _
  | (g, x) :: r => by
    by_cases h : g = f
    · rw [show putF f v ((g, x) :: r) = (g, v) :: r from if_pos h]
      exact Nat.le_succ _
    · rw [pf_miss h]
      exact Nat.succ_le_succ putF_len
/-- the fields of a fill, of a frame -/
def flF (q : Addr) (i : Int) : List (Str × V) := [("box", .ref q), ("colour", .int i), ("is_deed", .bl true)]
def frF (q : Addr) (i n : Int) : List (Str × V) := [("box", .ref q), ("colour", .int i), ("is_deed", .bl true), ("thick", .int n)]
theorem df_bd : ¬ ("box" : Str) = "is_deed" := by decide +kernel
theorem callK_nil {P : Program} {w : World} {K : PySem.W.Frag} {mg : Str → Option Value} {base : Heap} {CX : CXT} {k : Nat} {g : Addr} {sp : Sp} (F : FnR P w K mg base CX k g sp) : CallK P w K mg base CX k g [] sp := by
  refine ⟨fun A outer s H v u zs ws Q E hr e0 rv rz hl q => ?_⟩
  cases zs with
  | cons a b => cases hl
  | nil =>
    cases ws with
    | cons a b => cases rz
    | nil => exact F A outer s H [u] [v] Q E hr e0 (.cons rv .nil) q
def spDeedI (C : Addr) : Sp := fun vs H Q _ => ∃ (p dx : Addr) (fs : List (Str × V)), vs = [.ref p] ∧ H p = some (.ins C dx fs) ∧ fs.length < 900 ∧ Q .non (upd H p (.ins C dx (putF "is_deed" (.bl true) fs)))
end Hf
namespace L2
open PySem PySem.Spec PyProof.Rows
/-- what a for within a generator wants of its iterator -/
def GForB (J : It) (g : TG) (tb : TGn) (D : GEnds) (ys : List V) (σ : St) (H : Hp) : Prop := ∃ W : Nat → Nat → List V → St → Hp → Prop, (∃ m, W 0 m ys σ H) ∧ ∀ i m ys σ H, W i m ys σ H →
  (J.stop i H ∧ D.nx ys σ H) ∨ (J.go i H ∧ ∃ N : List V → St → Hp → Prop, (∀ ys' σ' H', N ys' σ' H' → ∃ m', m' < m ∧ W (i + 1) m' ys' σ' H') ∧ ∀ x H', J.yld i H x H' → g x σ H' fun σ2 H2 => tb { D with nx := N, ct := N, bk := D.nx } ys σ2 H2)
section
variable {wi : TI} {g : TG} {tb t u : TGn} {tp : TS} {te : TE} {D : GEnds} {ys : List V} {σ : St} {H : Hp}
theorem rd_gFor (q : wi σ H fun J H1 => GForB J g tb D ys σ H1) : tGFor wi g tb D ys σ H := q
theorem rd_gThen (q : t { D with nx := fun ys' σ' H' => u D ys' σ' H' } ys σ H) : tGThen t u D ys σ H := q
theorem rd_gPlain (q : tp (D.at ys) σ H) : tPlain tp D ys σ H := q
theorem rd_gYield (l : ys.length < sizeLine) (q : te σ H fun x H1 => D.nx (ys ++ [x]) σ H1) : tGYield te D ys σ H := ⟨l, q⟩
end
theorem gfor_range {lo : Int} {n : Nat} {g : TG} {tb : TGn} {D : GEnds} {ys : List V} {σ : St} {H : Hp} (Pv : Nat → List V → St → Hp → Prop) (h0 : Pv 0 ys σ H)
    (step : ∀ i ys σ H, i < n → Pv i ys σ H → g (.int (lo + i)) σ H fun σ2 H2 => tb { D with nx := Pv (i + 1), ct := Pv (i + 1), bk := D.nx } ys σ2 H2) (fin : ∀ ys σ H, Pv n ys σ H → D.nx ys σ H) : GForB (Itr lo n) g tb D ys σ H := by
  refine ⟨fun i m ys σ H => i + m = n ∧ Pv i ys σ H, ⟨n, by omega, h0⟩, fun i m ys σ H ⟨e, h⟩ => ?_⟩
  by_cases hi : i < n
  · refine .inr ⟨hi, Pv (i + 1), fun ys' σ' H' z => ⟨m - 1, by omega, by omega, z⟩, fun x H' y => ?_⟩
    obtain ⟨rfl, rfl⟩ := y
    exact step i ys σ H' hi h
  · obtain rfl : i = n := by omega
    exact .inl ⟨Nat.le_refl _, fin ys σ H h⟩
end L2
namespace Hf
open PySem PySem.Spec PyProof.Rows L2
/-! ### the pixels of a box -/
def rowP (x : Int) (n : Nat) (y : Int) : List Pt := (List.range n).map fun m : Nat => (x + m, y)
def boxP (x : Int) (n : Nat) (y : Int) (m : Nat) : List Pt := (List.range m).flatMap fun k : Nat => rowP x n (y + k)
theorem rowP_len {x y : Int} {n : Nat} : (rowP x n y).length = n := by unfold rowP; rw [List.length_map, List.length_range]
theorem rowP_succ {x y : Int} {n : Nat} : rowP x (n + 1) y = rowP x n y ++ [(x + n, y)] := by unfold rowP; rw [List.range_succ, List.map_append]; rfl
theorem boxP_succ {x y : Int} {n m : Nat} : boxP x n y (m + 1) = boxP x n y m ++ rowP x n (y + m) := by unfold boxP; rw [List.range_succ, List.flatMap_append, List.flatMap_singleton]
theorem boxP_len {x y : Int} {n : Nat} : ∀ {m : Nat}, (boxP x n y m).length = m * n
  | 0 => by unfold boxP; simp
  | m + 1 => by rw [boxP_succ, List.length_append, boxP_len, rowP_len, Nat.succ_mul]
theorem boxP_mem {x y : Int} {n m : Nat} {q : Pt} : q ∈ boxP x n y m ↔ (x ≤ q.1 ∧ q.1 < x + n ∧ y ≤ q.2 ∧ q.2 < y + m) := by
  unfold boxP rowP
  simp only [List.mem_flatMap, List.mem_map, List.mem_range]
  constructor
  · rintro ⟨k, hk, j, hj, rfl⟩
    exact ⟨by show x ≤ x + j; omega, by show x + j < x + n; omega, by show y ≤ y + k; omega, by show y + k < y + m; omega⟩
  · rintro ⟨a, b, c, d⟩
    exact ⟨(q.2 - y).toNat, by omega, (q.1 - x).toNat, by omega, Prod.ext (by show x + _ = q.1; omega) (by show y + _ = q.2; omega)⟩
/-- the pixels within bounds, of a canvas of this size -/
def pixIn (x0 x1 y0 y1 : Int) (w h : Nat) : List Pt := boxP (max 0 x0) (min (w : Int) x1 - max 0 x0).toNat (max 0 y0) (min (h : Int) y1 - max 0 y0).toNat
theorem pixIn_mem {x0 x1 y0 y1 : Int} {w h : Nat} {q : Pt} : q ∈ pixIn x0 x1 y0 y1 w h ↔ (0 ≤ q.1 ∧ q.1 < w ∧ 0 ≤ q.2 ∧ q.2 < h ∧ x0 ≤ q.1 ∧ q.1 < x1 ∧ y0 ≤ q.2 ∧ q.2 < y1) := by
  unfold pixIn
  rw [boxP_mem]
  omega
/-- pixels_in(box, width, height) -/
def spPixG (C CX : Addr) : SpG := fun vs H Q E => ∃ (q : Addr) (t0 t1 t2 t3 : P3) (w h : Nat), vs = [.ref q, .int w, .int h] ∧ BoxAt C CX H q t0 t1 t2 t3 ∧ Fit w h ∧ SmP t0 ∧ SmP t1 ∧ SmP t2 ∧ SmP t3 ∧
  ∀ x0 x1 y0 y1, bxV t0 t1 t2 t3 w h = [x0, x1, y0, y1] → ∀ (ts : List Addr) (H' : Hp), F2 (TupP H') ts (pixIn x0 x1 y0 y1 w h) → Same H H' → Q (ts.map V.ref) H'
/-- a generator def of the module -/
def CalGen (P : Program) (w : World) (K : PySem.W.Frag) (mg : Str → Option Value) (base : Heap) (k : Nat) (x : Str) (ps : List Str) (sp : SpG) : Prop :=
  ∃ f fd, mg x = some (.ref f) ∧ PySem.W.keepIn K (.ref f) = true ∧ Binds K fd ps [] ∧ GFn P w K mg base k f fd ps sp
section
variable {X : Cx} {k j : Nat} {x nm : Str} {ps : List Str} {sp : SpG} {e : Expr} {es : List Expr} {t : TA} {p p' pos pos' : Pos}
/-- list(g(..)) -/
theorem pe_listC (c : CalGen X.prog X.w X.K X.mg X.base k x ps sp) (hr : Room j X.A) (hm : X.mg nm = none) (hv : bootBuiltins nm = some (.type "list")) (ha : PA X (e :: es) t) (hk : k + 3 ≤ j := by decide) (hg : Gl X x := by rfl) (hg2 : Gl X nm := by rfl) (hnm : nm ≠ "__name__" := by decide) (hdb : (nm == ("__debug__" : Str)) = false := by decide) (hdb2 : (x == ("__debug__" : Str)) = false := by decide)
    (he : starEach (e :: es) X.env = (false, eval e X.env) :: starEach es X.env := by rfl) (hpl : (backTo pos' (starEach es X.env)).any (·.1) = false := by rfl)
    (he2 : starEach [.Call (.Name x p') (e :: es) [] pos'] X.env = (false, eval (.Call (.Name x p') (e :: es) [] pos') X.env) :: starEach [] X.env := by rfl) :
    PE X (.Call (.Name nm p) [.Call (.Name x p') (e :: es) [] pos'] [] pos) (tListG (tCallG sp [] (fun _ _ _ => False) t)) := by
  obtain ⟨f, fd, hmx, kp, hb, F⟩ := c
  exact pe_listG (pgen_call F (hr.mono (Nat.le_trans (Nat.le_add_right k 3) hk)) hg hmx kp hb .nil ha hdb2 he hpl) passL (fun _ _ _ z => z.elim) (hr.mono hk) hg2 hm hv hnm hdb he2
end
end Hf
namespace Hf
open PySem PySem.Spec PyProof.Rows L2
/-! ### what a deed paints -/
/-! ### the deeds in the heap -/
structure FillAt (C CX FI : Addr) (H : Hp) (p : Addr) (t0 t1 t2 t3 : P3) (i : Int) : Prop where
  at_ : ∃ dx q, H p = some (.ins FI dx (flF q i)) ∧ BoxAt C CX H q t0 t1 t2 t3
structure FrameAt (C CX FR : Addr) (H : Hp) (p : Addr) (t0 t1 t2 t3 : P3) (i n : Int) : Prop where
  at_ : ∃ dx q, H p = some (.ins FR dx (frF q i n)) ∧ BoxAt C CX H q t0 t1 t2 t3
theorem FillAt.same {C CX FI p : Addr} {H H' : Hp} {t0 t1 t2 t3 : P3} {i : Int} (h : FillAt C CX FI H p t0 t1 t2 t3 i) (e : Same H H') : FillAt C CX FI H' p t0 t1 t2 t3 i := let ⟨dx, q, a, b⟩ := h.at_; ⟨dx, q, e _ _ a, b.same e⟩
theorem FrameAt.same {C CX FI p : Addr} {H H' : Hp} {t0 t1 t2 t3 : P3} {i n : Int} (h : FrameAt C CX FI H p t0 t1 t2 t3 i n) (e : Same H H') : FrameAt C CX FI H' p t0 t1 t2 t3 i n := let ⟨dx, q, a, b⟩ := h.at_; ⟨dx, q, e _ _ a, b.same e⟩
end Hf
namespace Hf
open PySem PySem.Spec PyProof.Rows L2
/-! ### k36: grids, painted -/
def FarP (t : P3) : Prop := t.1.natAbs ≤ 1000000000000 ∧ t.2.1.natAbs ≤ 1000000000000 ∧ t.2.2.natAbs ≤ 1000000000000
theorem FarP.of {t : P3} (h : NearP t) : FarP t := ⟨Nat.le_trans h.1 (by decide), Nat.le_trans h.2.1 (by decide), Nat.le_trans h.2.2 (by decide)⟩
theorem FarP.bd {t : P3} (h : FarP t) : bdP t = true := bdP_of h.1 h.2.1 h.2.2
theorem FarP.sp {t : P3} (h : FarP t) : SpP t := ⟨Nat.le_trans h.1 (by decide), Nat.le_trans h.2.1 (by decide), Nat.le_trans h.2.2 (by decide)⟩
def GrG (H : Hp) (g : Addr) (R : Pic) : Prop := ∃ rs : List Addr, H g = some (.lst (rs.map V.ref)) ∧ GI H rs R ∧ rs.Nodup
theorem GrG.same {H H' : Hp} {g : Addr} {R : Pic} (h : GrG H g R) (e : Same H H') : GrG H' g R := let ⟨rs, a, b, c⟩ := h; ⟨rs, e _ _ a, b.same e, c⟩
theorem GrG.pen {H H' : Hp} {g b c : Addr} {R : Pic} {k : Nat} (h : GrG H g R) (P : Pen H b c k) (e : Keep b H H') : GrG H' g R := by
  obtain ⟨rs, a, f, n⟩ := h
  refine ⟨rs, e _ _ a (fun z => ?_), f.pen P e, n⟩
  obtain ⟨cs, m, q, h1, _⟩ := P
  rw [z, h1] at a
  cases rs with
  | nil => cases a
  | cons x xs =>
    cases xs with
    | nil => cases a
    | cons y ys => cases a
theorem GrG.cv {C p g : Addr} {H H' : Hp} {w h : Nat} {R M : Pic} (x : GrG H g R) (y : CvG C H p w h M) (e : Keep p H H') : GrG H' g R := by
  obtain ⟨rs, a, f, n⟩ := x
  exact ⟨rs, y.other e a (fun _ _ _ z => by cases z), f.cv y e, n⟩
def spLSpots : Sp := fun vs H Q _ => ∃ (g : Addr) (R : Pic) (w h : Nat), vs = [.ref g] ∧ GrG H g R ∧ Good w h R ∧ Fit w h ∧ ∀ (l : Addr) (ts : List Addr) (H' : Hp), H' l = some (.lst (ts.map V.ref)) → F2 (TupP H') ts (boxP 0 w 0 h) → Same H H' → Q (.ref l) H'
def inB (x0 x1 y0 y1 : Int) (q : Pt) : Bool := (decide (x0 ≤ q.1) && decide (q.1 < x1)) && (decide (y0 ≤ q.2) && decide (q.2 < y1))
def winL (x0 x1 y0 y1 : Int) (w h : Nat) : List Pt := (boxP 0 w 0 h).filter (inB x0 x1 y0 y1)
def spLWithin : Sp := fun vs H Q _ => ∃ (g q : Addr) (R : Pic) (w h : Nat) (t0 t1 t2 t3 : P3), vs = [.ref g, .ref q] ∧ GrG H g R ∧ Good w h R ∧ Fit w h ∧ FourT H q t0 t1 t2 t3 ∧ FarP t0 ∧ FarP t1 ∧ FarP t2 ∧ FarP t3 ∧
  ∀ x0 x1 y0 y1, bxV t0 t1 t2 t3 w h = [x0, x1, y0, y1] → ∀ (l : Addr) (ts : List Addr) (H' : Hp), H l = none → H' l = some (.lst (ts.map V.ref)) → F2 (TupP H') ts (winL x0 x1 y0 y1 w h) → Same H H' → Q (.ref l) H'
def spLLines36 : Sp := fun vs H Q _ => ∃ (g : Addr) (R : Pic) (w h : Nat), vs = [.ref g] ∧ GrG H g R ∧ Good w h R ∧ Fit w h ∧ ∀ (t : Addr) (H' : Hp), H' t = some (.tup (R.map rowV)) → Same H H' → Q (.ref t) H'
theorem winL_eq {x0 x1 y0 y1 : Int} {w h : Nat} {q : Pt} : q ∈ winL x0 x1 y0 y1 w h ↔ q ∈ pixIn x0 x1 y0 y1 w h := by
  unfold winL
  rw [List.mem_filter, boxP_mem, pixIn_mem]
  unfold inB
  simp only [Bool.and_eq_true, decide_eq_true_eq]
  omega
theorem win_ok {x0 x1 y0 y1 : Int} {w h : Nat} : ∀ q ∈ winL x0 x1 y0 y1 w h, 0 ≤ q.1 ∧ q.1 < w ∧ 0 ≤ q.2 ∧ q.2 < h := fun q hq => by
  have := pixIn_mem.mp (winL_eq.mp hq)
  omega
end Hf
/-! set(xs) of a list of whole numbers -/
/-! sorted(xs, key=lambda a: int(a[0])), xs a list of tuples that begin with a whole number -/
/-! Covers: what the program looks at and what the law goes through are one -/
namespace Cov
abbrev T3 := Int × Int × Int
abbrev Rw3 := Int × Option Int
def pv (p : T3) (s : Int) : Int := p.1 * (s / 2) + p.2.1 + p.2.2 * (s % 2)
def sub (p q : T3) : T3 := (p.1 - q.1, p.2.1 - q.2.1, p.2.2 - q.2.2)
def rowWf (r : Rw3) : Bool := match r with
  | (l, none) => decide (1 ≤ l)
  | (l, some h) => decide (1 ≤ l) && (decide (l ≤ h) && decide ((h - l) % 2 = 0))
def sgn (x : Int) : Int := (if 0 < x then 1 else 0) - (if x < 0 then 1 else 0)
/-- the last size of a row that the law looks at -/
def upTo (r : Rw3) : Int := match r.2 with
  | some h => if h < 120 then h else 120
  | none => 120
def sizes (r : Rw3) : List Int := (List.range ((upTo r - r.1) / 2 + 1).toNat).map fun k : Nat => r.1 + 2 * (k : Int)
def flat (rs : List Rw3) : List Int := rs.flatMap sizes
def Good (r : Rw3) : Prop := rowWf r = true ∧ r.1 ≤ 100 ∧ ∀ h, r.2 = some h → h ≤ 100
/-! ### a chain tells all sizes once -/
/-! ### pigeons -/
/-! ### the parities -/
def par (p : Int) (rs : List Rw3) : List Rw3 := rs.filter fun r => decide ((r.1 - p) % 2 = 0)
/-! ### orders -/
/-- two rows of values stand alike -/
def Alike (vs ws : List Int) : Prop := ∀ (i j : Nat) (a b c d : Int), vs[i]? = some a → vs[j]? = some b → ws[i]? = some c → ws[j]? = some d → (a < b ↔ c < d)
/-! ### the places' values -/
/-! ### the law -/
def NearP (p : T3) : Prop := -9 ≤ p.2.1 ∧ p.2.1 ≤ 9 ∧ -1 ≤ p.2.2 ∧ p.2.2 ≤ 1
def vals (ps : List T3) (s : Int) : List Int := ps.map fun p => pv p s
end Cov
namespace Hf
open PySem PySem.Spec PyProof.Rows L2
/-! ### a comprehension with two fors -/
/-! ### rows of sizes, places as three integers -/
open Cov
def hv : Option Int → V
  | none => .non
  | some h => .int h
def Atom (x : V) : Prop := x = .non ∨ (∃ i, x = .int i) ∨ (∃ s, x = .str s ∧ PyData.strOk s = true) ∨ ∃ b, x = .bl b
def rowOf : List V → Option Rw3
  | [.int l, .non] => some (l, none)
  | [.int l, .int h] => some (l, some h)
  | _ => none
def RowAt (H : Hp) (t : Addr) (r : Rw3) : Prop := H t = some (.tup [.int r.1, hv r.2])
/-- an item of rows: a row, or another value -/
inductive RIt (H : Hp) : V → Option Rw3 → Prop
  | non : RIt H .non none
  | lst {a : Addr} {xs : List V} (h : H a = some (.lst xs)) (ha : ∀ x ∈ xs, Atom x) : RIt H (.ref a) none
  | tup {a : Addr} {xs : List V} (h : H a = some (.tup xs)) (ha : ∀ x ∈ xs, Atom x) : RIt H (.ref a) (rowOf xs)
theorem RIt.imp {H H' : Hp} {v : V} {o : Option Rw3} (h : RIt H v o) (e : ∀ a u, v = .ref a → H a = some u → (∀ ps, u ≠ .tbl ps) → H' a = some u) : RIt H' v o := by
  cases h with
  | non => exact .non
  | lst h ha => exact .lst (e _ _ rfl h fun ps z => by cases z) ha
  | tup h ha => exact .tup (e _ _ rfl h fun ps z => by cases z) ha
theorem RIt.same {H H' : Hp} {v : V} {o : Option Rw3} (h : RIt H v o) (e : Same H H') : RIt H' v o := h.imp fun a u _ q _ => e _ _ q
theorem RIt.extN {H H' : Hp} {v : V} {o : Option Rw3} (h : RIt H v o) (e : LamX.ExtN H H') : RIt H' v o := h.imp fun a u _ q n => e _ _ q n
theorem RIt.kn {b : Addr} {H H' : Hp} {v : V} {o : Option Rw3} (h : RIt H v o) (e : KN b H H') (n : v ≠ .ref b) : RIt H' v o := h.imp fun a u z q y => e _ _ q y fun w => n (by rw [z, w])
theorem RIt.keep {b : Addr} {H H' : Hp} {v : V} {o : Option Rw3} (h : RIt H v o) (e : Keep b H H') (n : v ≠ .ref b) : RIt H' v o := h.kn (KN.of e) n
/-- the bounds of what is handed -/
def Bdd (o : Option Rw3) : Prop := ∀ r, o = some r → r.1 ≤ 100 ∧ ∀ h, r.2 = some h → h ≤ 100
/-! ### promises -/
def SqA (H : Hp) (a : Addr) (xs : List V) : Prop := H a = some (.lst xs) ∨ H a = some (.tup xs)
theorem SqA.same {H H' : Hp} {a : Addr} {xs : List V} (h : SqA H a xs) (e : Same H H') : SqA H' a xs := h.imp (fun h => e _ _ h) fun h => e _ _ h
theorem SqA.extN {H H' : Hp} {a : Addr} {xs : List V} (h : SqA H a xs) (e : LamX.ExtN H H') : SqA H' a xs := h.imp (fun h => e _ _ h fun ps z => by cases z) fun h => e _ _ h fun ps z => by cases z
theorem RowAt.same {H H' : Hp} {a : Addr} {r : Rw3} (h : RowAt H a r) (e : Same H H') : RowAt H' a r := e _ _ h
theorem RowAt.extN {H H' : Hp} {a : Addr} {r : Rw3} (h : RowAt H a r) (e : LamX.ExtN H H') : RowAt H' a r := e _ _ h fun ps z => by cases z
/-- the law's own places: tuples of three -/
def PtAt (H : Hp) (t : Addr) (p : T3) : Prop := H t = some (.tup [.int p.1, .int p.2.1, .int p.2.2])
theorem PtAt.same {H H' : Hp} {a : Addr} {r : T3} (h : PtAt H a r) (e : Same H H') : PtAt H' a r := e _ _ h
def Nr (p : T3) : Prop := Cov.NearP p ∧ p.1.natAbs ≤ 4
def PtsAt (H : Hp) (l : Addr) (ps : List T3) : Prop := ∃ ts : List Addr, H l = some (.lst (ts.map V.ref)) ∧ F2 (PtAt H) ts ps ∧ ts.length ≤ 20 ∧ ∀ p ∈ ps, Nr p
/-- a row within bounds -/
def RowV (B : Int) (H : Hp) (v : V) : Prop := ∃ (t : Addr) (r : Rw3), v = .ref t ∧ RowAt H t r ∧ 1 ≤ r.1 ∧ r.1 ≤ B ∧ ∀ h, r.2 = some h → 1 ≤ h ∧ h ≤ B
theorem RowV.same {B : Int} {H H' : Hp} {v : V} (h : RowV B H v) (e : Same H H') : RowV B H' v := let ⟨t, r, a, b, c⟩ := h; ⟨t, r, a, b.same e, c⟩
theorem RowV.keep {B : Int} {b : Addr} {H H' : Hp} {v : V} (h : RowV B H v) (e : Keep b H H') (n : v ≠ .ref b) : RowV B H' v := let ⟨t, r, a, q, c⟩ := h; ⟨t, r, a, e _ _ q fun z => n (by rw [a, z]), c⟩
end Hf
namespace Hf
open PySem PySem.Spec PyProof.Rows L2
open Cov
/-! ### items of rows as data -/
end Hf
/-! What the law has gone through so far -/
namespace Cov
theorem flat_append (a b : List Rw3) : flat (a ++ b) = flat a ++ flat b := by unfold flat; rw [List.flatMap_append]
def cur (rs : List Rw3) (i j : Nat) : List Int := match rs[i]? with
  | some r => (sizes r).take j
  | none => []
theorem cur_of {rs : List Rw3} {i j : Nat} {r : Rw3} (h : rs[i]? = some r) : cur rs i j = (sizes r).take j := by unfold cur; rw [h]
theorem cur_zero {rs : List Rw3} {i : Nat} : cur rs i 0 = [] := by unfold cur; split <;> simp
structure Gone (ps : List T3) (rs : List Rw3) (i j : Nat) (ks : List Int) : Prop where
  keys : ks = flat (rs.take i) ++ cur rs i j
  nd : ks.Nodup
  old : ∀ r ∈ rs.take i, ∀ s ∈ sizes r, Alike (vals ps s) (vals ps r.1)
  new : ∀ r, rs[i]? = some r → ∀ s ∈ (sizes r).take j, Alike (vals ps s) (vals ps r.1)
theorem Gone.start {ps : List T3} {rs : List Rw3} : Gone ps rs 0 0 [] := ⟨by rw [cur_zero]; rfl, List.nodup_nil, fun r h => by simp at h, fun r _ s h => by simp at h⟩
variable {ps : List T3} {rs : List Rw3} {i j : Nat} {ks : List Int} {r : Rw3} {s : Int}
theorem take_next {α : Type} {l : List α} {j : Nat} {x : α} (h : l[j]? = some x) : l.take (j + 1) = l.take j ++ [x] := by
  rw [List.take_add_one, h]
  rfl
theorem Gone.step (g : Gone ps rs i j ks) (hr : rs[i]? = some r) (hs : (sizes r)[j]? = some s) (hn : s ∉ ks) (al : Alike (vals ps s) (vals ps r.1)) : Gone ps rs i (j + 1) (ks ++ [s]) := by
  refine ⟨?_, ?_, g.old, fun r' hr' s' hs' => ?_⟩
  · rw [g.keys, cur_of hr, cur_of hr, take_next hs, List.append_assoc]
  · rw [List.nodup_append]
    exact ⟨g.nd, by simp, fun a ha b hb => by rw [List.mem_singleton.mp hb]; rintro rfl; exact hn ha⟩
  · obtain rfl : r' = r := Option.some.inj (hr'.symm.trans hr)
    rw [take_next hs, List.mem_append, List.mem_singleton] at hs'
    rcases hs' with h | rfl
    · exact g.new _ hr _ h
    · exact al
theorem Gone.next (g : Gone ps rs i j ks) (hr : rs[i]? = some r) (hj : (sizes r).length ≤ j) : Gone ps rs (i + 1) 0 ks := by
  have e : (sizes r).take j = sizes r := List.take_of_length_le hj
  refine ⟨?_, g.nd, fun r' hr' s' hs' => ?_, fun r' _ s' h => by simp at h⟩
  · rw [cur_zero, List.append_nil, take_next hr, flat_append, g.keys, cur_of hr, e]
    congr 1
    unfold flat
    simp
  · rw [take_next hr, List.mem_append, List.mem_singleton] at hr'
    rcases hr' with h | rfl
    · exact g.old _ h _ hs'
    · exact g.new _ hr _ (by rw [e]; exact hs')
end Cov
namespace Cov
end Cov
namespace Hf
open PySem PySem.Spec PyProof.Rows L2
open Cov
end Hf
namespace Hf
open PySem PySem.Spec PyProof.Rows L2
open Cov
/-! ### going through a list or a tuple -/
def PT (C : Addr) (H : Hp) (g : Addr) (t : T3) : Prop := PlaceAt C H g t.1 t.2.1 t.2.2
theorem PT.same {C : Addr} {H H' : Hp} {g : Addr} {t : T3} (h : PT C H g t) (e : Same H H') : PT C H' g t := PlaceAt.same h e
end Hf
namespace Hf
open PySem PySem.Spec PyProof.Rows L2
open Cov (Rw3 T3)
/-- a dict by its whole-number keys -/
def KsA (kvs : List (Key × V)) (ks : List Int) : Prop := kvs.map (·.1) = ks.map Sum.inl
theorem KsA.nil : KsA [] [] := rfl
theorem KsA.len {kvs : List (Key × V)} {ks : List Int} (h : KsA kvs ks) : kvs.length = ks.length := by
  have := congrArg List.length h
  rwa [List.length_map, List.length_map] at this
theorem KsA.has {kvs : List (Key × V)} {ks : List Int} (h : KsA kvs ks) (s : Int) : (valV kvs (Sum.inl s)).isSome = decide (s ∈ ks) := by
  rw [← valV_any, Bool.eq_iff_iff, List.any_eq_true, decide_eq_true_eq]
  constructor
  · rintro ⟨kv, hm, e⟩
    have e := of_decide_eq_true e
    have : kv.1 ∈ ks.map Sum.inl := by rw [← h]; exact List.mem_map.mpr ⟨kv, hm, rfl⟩
    obtain ⟨z, hz, ez⟩ := List.mem_map.mp this
    rw [e] at ez
    cases ez
    exact hz
  · intro hs
    have : (Sum.inl s : Key) ∈ kvs.map (·.1) := by rw [h]; exact List.mem_map.mpr ⟨s, hs, rfl⟩
    obtain ⟨kv, hm, e⟩ := List.mem_map.mp this
    exact ⟨kv, hm, decide_eq_true e⟩
theorem KsA.put {kvs : List (Key × V)} {ks : List Int} (h : KsA kvs ks) {s : Int} (hs : s ∉ ks) (v : V) : KsA (putK kvs (Sum.inl s) v) (ks ++ [s]) := by
  unfold putK
  rw [if_neg (by rw [valV_any, h.has, decide_eq_false hs]; decide)]
  unfold KsA
  rw [List.map_append, List.map_append, h]
  rfl
theorem PtsAt.same {H H' : Hp} {l : Addr} {ps : List T3} (h : PtsAt H l ps) (e : Same H H') : PtsAt H' l ps :=
  let ⟨ts, a, b, c⟩ := h; ⟨ts, e _ _ a, b.imp fun _ _ q => q.same e, c⟩
end Hf
namespace Hf
open PySem PySem.Spec PyProof.Rows L2
open Cov (Rw3 T3)
/-- a comprehension that tells what stands of the items so far, whatever else it changes -/
theorem lc_stW {J : It} {n : Nat} {G0 : Hp → Prop} {Y : Nat → Hp → V → Hp → Prop} (w : Walk J n G0 Y) {g : TG} {te : TE} {vs : List Nat} {σ : L2.St} {H : Hp} {Q : VK} (A : Addr → List V → Hp → Prop) (hn : n ≤ 1000) (a0 : ∀ D, H D = none → A D [] (upd H D (.lst []))) (hG : ∀ D ys H', A D ys H' → G0 H')
    (hev : ∀ (D : Addr) (j : Nat) (x : V) (ys : List V) (H1 H2 : Hp) (R : VK), j < n → H D = none → A D ys H1 → H1 D = some (.lst ys) → ys.length = j → Y j H1 x H2 → (∀ y H3, H3 D = some (.lst ys) → A D (ys ++ [y]) (upd H3 D (.lst (ys ++ [y]))) → R y H3) → g x (wipe σ vs) H2 fun σ2 H3 => wipe σ2 vs = wipe σ vs ∧ te σ2 H3 R)
    (k : ∀ (D : Addr) (ys : List V) (H' : Hp), H D = none → H' D = some (.lst ys) → ys.length = n → A D ys H' → Q (.ref D) H') : LcK g tYes te vs σ Q J H := by
  intro D hD
  refine lc_it w (g := g) (tt := tYes) (te := te) (vs := vs) (σ := σ) (Qd := fun H => Q (.ref D) H) (fun j H' => ∃ ys, H' D = some (.lst ys) ∧ ys.length = j ∧ A D ys H') ⟨[], upd_same, rfl, a0 D hD⟩ (fun j H' _ ⟨ys, _, _, a⟩ => hG D ys H' a) ?_ ?_
  · rintro j x H1 H2 hj ⟨ys, e, l, a⟩ y
    exact hev D j x ys H1 H2 _ hj hD a e l y fun y' H3 e3 a3 => ⟨ys, e3, small1000 (by omega), ys ++ [y'], upd_same, by rw [List.length_append, l]; rfl, a3⟩
  · rintro H1 ⟨ys, e, l, a⟩
    exact k D ys H1 hD e l a
def Fnd (H : Hp) (kvs : List (Key × V)) : Prop := (∃ ks, KsA kvs ks) ∧ ∀ kv ∈ kvs, RowV 48 H kv.2
theorem Fnd.nil {H : Hp} : Fnd H [] := ⟨⟨[], rfl⟩, fun _ h => (List.not_mem_nil h).elim⟩
theorem Fnd.same {H H' : Hp} {kvs : List (Key × V)} (h : Fnd H kvs) (s : Same H H') : Fnd H' kvs := ⟨h.1, fun kv m => (h.2 kv m).same s⟩
theorem Fnd.put {H : Hp} {kvs : List (Key × V)} (h : Fnd H kvs) (s : Int) {v : V} (hv : RowV 48 H v) : Fnd H (putK kvs (Sum.inl s) v) ∧ (putK kvs (Sum.inl s) v).length ≤ kvs.length + 1 ∧ putK kvs (Sum.inl s) v ≠ [] := by
  obtain ⟨⟨ks, K⟩, hr⟩ := h
  by_cases c : (kvs.any fun kv => decide (kv.1 = Sum.inl s)) = true
  · have e : putK kvs (Sum.inl s) v = kvs.map (fun kv => if kv.1 = Sum.inl s then (kv.1, v) else kv) := by unfold putK; rw [if_pos c]
    rw [e]
    refine ⟨⟨⟨ks, ?_⟩, fun kv m => ?_⟩, by rw [List.length_map]; omega, fun z => ?_⟩
    · unfold KsA
      rw [List.map_map, ← K]
      refine List.map_congr_left fun kv _ => ?_
      show (if kv.1 = Sum.inl s then (kv.1, v) else kv).1 = kv.1
      split <;> rfl
    · obtain ⟨kv0, m0, rfl⟩ := List.mem_map.mp m
      split
      · exact hv
      · exact hr kv0 m0
    · rw [List.map_eq_nil_iff] at z
      rw [z] at c
      cases c
  · have e : putK kvs (Sum.inl s) v = kvs ++ [(Sum.inl s, v)] := by unfold putK; rw [if_neg c]
    rw [e]
    refine ⟨⟨⟨ks ++ [s], ?_⟩, fun kv m => ?_⟩, by rw [List.length_append]; exact Nat.le_refl _, by simp⟩
    · unfold KsA
      rw [List.map_append, List.map_append, K]
      rfl
    · rcases List.mem_append.mp m with z | z
      · exact hr kv z
      · rw [List.mem_singleton.mp z]
        exact hv
theorem Fnd.get {H : Hp} {kvs : List (Key × V)} {ks : List Int} (h : Fnd H kvs) (K : KsA kvs ks) {s : Int} (hs : s ∈ ks) : ∃ v, valV kvs (Sum.inl s) = some v ∧ RowV 48 H v := by
  have := K.has s
  rw [decide_eq_true hs] at this
  obtain ⟨v, e⟩ := Option.isSome_iff_exists.mp this
  refine ⟨v, e, ?_⟩
  unfold valV at e
  obtain ⟨kv, e1, e2⟩ := Option.map_eq_some_iff.mp e
  rw [← e2]
  exact h.2 kv (List.mem_of_find?_eq_some e1)
/-- the lows of classes -/
def Lows (b : Int) (los : List Int) : Prop := los[0]? = some b ∧ ∀ (k : Nat) (x : Int), los[k]? = some x → 1 ≤ x ∧ x ≤ 47 ∧ (1 ≤ k → 3 ≤ x)
theorem Lows.one {b : Int} (h : 1 ≤ b) (h2 : b ≤ 2) : Lows b [b] := ⟨rfl, fun k x hx => by
  match k, hx with
  | 0, hx => cases hx; exact ⟨h, by omega, fun z => by omega⟩
  | k + 1, hx => simp at hx⟩
theorem Lows.snoc {b : Int} {los : List Int} (h : Lows b los) {s : Int} (h1 : 3 ≤ s) (h2 : s ≤ 47) : Lows b (los ++ [s]) := by
  have hl : 0 < los.length := by
    have := h.1
    rw [List.getElem?_eq_some_iff] at this
    exact this.1
  refine ⟨by rw [List.getElem?_append_left hl]; exact h.1, fun k x hx => ?_⟩
  by_cases c : k < los.length
  · rw [List.getElem?_append_left c] at hx
    exact h.2 k x hx
  · rw [List.getElem?_append_right (by omega)] at hx
    have : x = s := by
      cases e : k - los.length with
      | zero => rw [e] at hx; cases hx; rfl
      | succ m => rw [e] at hx; simp at hx
    subst this
    exact ⟨by omega, by omega, fun _ => h1⟩
theorem Lows.pos {b : Int} {los : List Int} (h : Lows b los) : 0 < los.length := by
  have := h.1
  rw [List.getElem?_eq_some_iff] at this
  exact this.1
/-- an item within bounds -/
def Itm (H : Hp) (v : V) : Prop := ∃ o, RIt H v o ∧ Bdd o
theorem Itm.same {H H' : Hp} {v : V} (h : Itm H v) (s : Same H H') : Itm H' v := let ⟨o, a, b⟩ := h; ⟨o, a.same s, b⟩
theorem Itm.keep {b : Addr} {H H' : Hp} {v : V} (h : Itm H v) (s : Keep b H H') (n : v ≠ .ref b) : Itm H' v := let ⟨o, a, q⟩ := h; ⟨o, a.keep s n, q⟩
end Hf
namespace Hf
open PySem PySem.Spec PyProof.Rows L2
/-- a comprehension that keeps some and makes them: what stands of the items so far -/
theorem lc_fW {J : It} {n : Nat} {G0 : Hp → Prop} {Y : Nat → Hp → V → Hp → Prop} (w : Walk J n G0 Y) {g : TG} {tt : TT} {te : TE} {vs : List Nat} {σ : L2.St} {H : Hp} {Q : VK} (A : Nat → Addr → List V → Hp → Prop) (hn : n ≤ 1000000) (a0 : ∀ D, H D = none → A 0 D [] (upd H D (.lst []))) (hG : ∀ j D ys H', A j D ys H' → G0 H')
    (hev : ∀ (D : Addr) (j : Nat) (x : V) (ys : List V) (H1 H2 : Hp) (R1 : VK) (R2 : Hp → Prop), j < n → H D = none → A j D ys H1 → H1 D = some (.lst ys) → Y j H1 x H2 → (∀ y H3, H3 D = some (.lst ys) → A (j + 1) D (ys ++ [y]) (upd H3 D (.lst (ys ++ [y]))) → R1 y H3) → (∀ H3, H3 D = some (.lst ys) → A (j + 1) D ys H3 → R2 H3) → g x (wipe σ vs) H2 fun σ2 H3 => wipe σ2 vs = wipe σ vs ∧ tt σ2 H3 fun b H4 => if b = true then te σ2 H4 R1 else R2 H4)
    (k : ∀ (D : Addr) (ys : List V) (H' : Hp), H D = none → H' D = some (.lst ys) → A n D ys H' → Q (.ref D) H') : LcK g tt te vs σ Q J H := by
  intro D hD
  refine lc_it w (g := g) (tt := tt) (te := te) (vs := vs) (σ := σ) (Qd := fun H => Q (.ref D) H) (fun j H' => ∃ ys, H' D = some (.lst ys) ∧ ys.length ≤ j ∧ A j D ys H') ⟨[], upd_same, Nat.le_refl _, a0 D hD⟩ (fun j H' _ ⟨ys, _, _, a⟩ => hG j D ys H' a) ?_ ?_
  · rintro j x H1 H2 hj ⟨ys, e, l, a⟩ y
    exact hev D j x ys H1 H2 _ _ hj hD a e y (fun y' H3 e3 a3 => ⟨ys, e3, big_size (by omega), ys ++ [y'], upd_same, by rw [List.length_append, List.length_singleton]; omega, a3⟩) (fun H3 e3 a3 => ⟨ys, e3, by omega, a3⟩)
  · rintro H1 ⟨ys, e, l, a⟩
    exact k D ys H1 hD e a
theorem gi_of {H : Hp} : ∀ {as : List Addr} {R : Pic}, F2 (fun t xs => H t = some (HO.lst xs)) as (R.map fun r => r.map inum) → GI H as R
  | _, [], z => by cases z; exact .nil
  | _, r :: R, z => by cases z with | cons h t => exact .cons h (gi_of t)
theorem call_list_ofB {X : Cx} {K : PySem.W.Frag} (hK : X.K = K := by rfl) : CallR X (.type "list") (fun xs H Q => ∃ p ys, xs = [.ref p] ∧ (SqL K H p ys ∨ SqT K H p ys) ∧ ∀ l, H l = none → Q (.ref l) (upd H l (.lst ys))) := by
  subst hK
  exact call_list_of
theorem rows_map {α : Type} {f : List Nat → α} : ∀ {R : Pic} {h : Nat}, R.length = h → R.map f = (List.range h).map fun j => f (R.getD j []) := by
  intro R h e
  subst e
  refine List.ext_getElem (by rw [List.length_map, List.length_map, List.length_range]) fun j h1 h2 => ?_
  have hj : j < R.length := by rw [List.length_map] at h1; exact h1
  rw [List.getElem_map, List.getElem_map, List.getElem_range, List.getD_eq_getElem?_getD, List.getElem?_eq_getElem hj]
  rfl
theorem tups_put {H : Hp} {D : Addr} {us zs : List V} {ts : List Addr} {M : List Pt} (f : F2 (TupP H) ts M) (hD : H D = some (.lst us)) : F2 (TupP (upd H D (.lst zs))) ts M := F2.imp (fun t q z => by
  have z : H t = some (.tup [.int q.1, .int q.2]) := z
  show upd H D (.lst zs) t = _
  rw [upd_ne (fun e => by rw [e, hD] at z; cases z)]
  exact z) f
end Hf
namespace Hf
open PySem PySem.Spec PyProof.Rows L2
/-! ### a value that is of one class or of another -/
/-! ### what fills and frames say -/
/-! ### instances stay while a canvas or the pen changes -/
def InsK (H H' : Hp) : Prop := ∀ a C dx fs, H a = some (.ins C dx fs) → List.lookup ("width" : Str) fs = none → H' a = some (.ins C dx fs)
theorem InsK.pen {b c : Addr} {H H' : Hp} {k : Nat} (P : Pen H b c k) (e : Keep b H H') : InsK H H' := fun a C dx fs h _ => e _ _ h (fun z => by
  obtain ⟨xs, hb⟩ := P.lst
  rw [z, hb] at h
  cases h)
theorem InsK.cv {C p : Addr} {H H' : Hp} {w h : Nat} {L : Pic} (x : CvG C H p w h L) (e : Keep p H H') : InsK H H' := fun a D dx fs ha n => e _ _ ha (fun z => by
  obtain ⟨dy, l, hp, _⟩ := x.at_
  rw [z, hp] at ha
  injection ha with ha
  injection ha with _ _ ha
  rw [← ha, cv_width] at n
  cases n)
theorem InsK.of {H H' : Hp} (e : Same H H') : InsK H H' := fun a C dx fs h _ => e _ _ h
theorem pl_nowidth {s o d : Int} : List.lookup ("width" : Str) (plF s o d) = none := (lk_miss (by decide +kernel)).trans ((lk_miss (by decide +kernel)).trans ((lk_miss (by decide +kernel)).trans rfl))
theorem bx_nowidth {a b c d : Addr} : List.lookup ("width" : Str) (bxF a b c d) = none := (lk_miss (by decide +kernel)).trans ((lk_miss (by decide +kernel)).trans ((lk_miss (by decide +kernel)).trans ((lk_miss (by decide +kernel)).trans rfl)))
theorem fl_nowidth {q : Addr} {i : Int} : List.lookup ("width" : Str) (flF q i) = none := (lk_miss (by decide +kernel)).trans ((lk_miss (by decide +kernel)).trans ((lk_miss (by decide +kernel)).trans rfl))
theorem fr_nowidth {q : Addr} {i n : Int} : List.lookup ("width" : Str) (frF q i n) = none := (lk_miss (by decide +kernel)).trans ((lk_miss (by decide +kernel)).trans ((lk_miss (by decide +kernel)).trans ((lk_miss (by decide +kernel)).trans rfl)))
theorem PAt.insK {C p : Addr} {H H' : Hp} {t : P3} (h : PAt C H p t) (e : InsK H H') : PAt C H' p t := let ⟨dx, a⟩ := h; ⟨dx, e _ _ _ _ a pl_nowidth⟩
theorem BoxAt.insK {C CX p : Addr} {H H' : Hp} {t0 t1 t2 t3 : P3} (h : BoxAt C CX H p t0 t1 t2 t3) (e : InsK H H') : BoxAt C CX H' p t0 t1 t2 t3 := let ⟨dx, p0, p1, p2, p3, a, h0, h1, h2, h3⟩ := h; ⟨dx, p0, p1, p2, p3, e _ _ _ _ a bx_nowidth, PAt.insK h0 e, PAt.insK h1 e, PAt.insK h2 e, PAt.insK h3 e⟩
theorem FillAt.insK {C CX FI p : Addr} {H H' : Hp} {t0 t1 t2 t3 : P3} {i : Int} (h : FillAt C CX FI H p t0 t1 t2 t3 i) (e : InsK H H') : FillAt C CX FI H' p t0 t1 t2 t3 i := let ⟨dx, q, a, b⟩ := h.at_; ⟨dx, q, e _ _ _ _ a fl_nowidth, BoxAt.insK b e⟩
theorem FrameAt.insK {C CX FI p : Addr} {H H' : Hp} {t0 t1 t2 t3 : P3} {i n : Int} (h : FrameAt C CX FI H p t0 t1 t2 t3 i n) (e : InsK H H') : FrameAt C CX FI H' p t0 t1 t2 t3 i n := let ⟨dx, q, a, b⟩ := h.at_; ⟨dx, q, e _ _ _ _ a fr_nowidth, BoxAt.insK b e⟩
/-! ### the law's steps on a canvas -/
end Hf
namespace Hf
open PySem PySem.Spec PyProof.Rows L2
/-! ### painting, each pixel with its own colour -/
def paintV (R : Pic) (qs : List Pt) (f : Pt → Nat) : Pic := qs.foldl (fun R q => paint1 R q (f q)) R
section
variable {w h : Nat} {f : Pt → Nat}
theorem paintV_snoc (R : Pic) (qs : List Pt) (q : Pt) : paintV R (qs ++ [q]) f = paint1 (paintV R qs f) q (f q) := by
  unfold paintV
  rw [List.foldl_append]
  rfl
theorem paintV_good : ∀ {qs : List Pt} {R : Pic}, Good w h R → (∀ q ∈ qs, f q < 10) → (∀ q ∈ qs, q.2.toNat < h) → Good w h (paintV R qs f)
  | [], _, G, _, _ => G
  | q :: qs, _, G, hd, hq => paintV_good (qs := qs) (paint1_good G (hd q List.mem_cons_self) (hq q List.mem_cons_self)) (fun z hz => hd z (List.mem_cons_of_mem _ hz)) (fun z hz => hq z (List.mem_cons_of_mem _ hz))
theorem paintV_px : ∀ {qs : List Pt} {R : Pic}, Good w h R → (∀ q ∈ qs, f q < 10) → (∀ q ∈ qs, 0 ≤ q.1 ∧ 0 ≤ q.2 ∧ q.2.toNat < h) → ∀ {i j : Nat}, i < w → j < h → px (paintV R qs f) j i = if ((i : Int), (j : Int)) ∈ qs then f ((i : Int), (j : Int)) else px R j i
  | [], R, G, _, _, i, j, _, _ => by
    rw [if_neg List.not_mem_nil]
    rfl
  | q :: qs, R, G, hd, hq, i, j, hi, hj => by
    obtain ⟨q1, q2, q3⟩ := hq q List.mem_cons_self
    have G1 := paint1_good G (hd q List.mem_cons_self) q3
    have e := paintV_px (qs := qs) G1 (fun z hz => hd z (List.mem_cons_of_mem _ hz)) (fun z hz => hq z (List.mem_cons_of_mem _ hz)) hi hj
    show px (paintV (paint1 R q (f q)) qs f) j i = _
    rw [e, paint1_px G hi hj q1 q2]
    by_cases m : ((i : Int), (j : Int)) ∈ qs
    · rw [if_pos m, if_pos (List.mem_cons_of_mem _ m)]
    · rw [if_neg m]
      by_cases z : ((i : Int), (j : Int)) = q
      · rw [if_pos z, if_pos (by rw [z]; exact List.mem_cons_self), z]
      · rw [if_neg z, if_neg fun n => by
          rcases List.mem_cons.mp n with n | n
          · exact z n
          · exact m n]
theorem paintV_congr {A B : List Pt} {R : Pic} (G : Good w h R) (dA : ∀ q ∈ A, f q < 10) (hA : ∀ q ∈ A, 0 ≤ q.1 ∧ 0 ≤ q.2 ∧ q.2.toNat < h) (e : ∀ q, q ∈ A ↔ q ∈ B) : paintV R A f = paintV R B f := by
  have dB : ∀ q ∈ B, f q < 10 := fun q hq => dA q ((e q).mpr hq)
  have hB : ∀ q ∈ B, 0 ≤ q.1 ∧ 0 ≤ q.2 ∧ q.2.toNat < h := fun q hq => hA q ((e q).mpr hq)
  refine pic_ext (paintV_good G dA fun q hq => (hA q hq).2.2) (paintV_good G dB fun q hq => (hB q hq).2.2) fun j i hj hi => ?_
  rw [paintV_px G dA hA hi hj, paintV_px G dB hB hi hj]
  by_cases m : ((i : Int), (j : Int)) ∈ A
  · rw [if_pos m, if_pos ((e _).mp m)]
  · rw [if_neg m, if_neg fun n => m ((e _).mpr n)]
end
/-! ### copies -/
/-- what stands of a copy of the pixels M by (a, b), of the picture R -/
def shV (R : Pic) (a b : Int) (q : Pt) : Nat := px R (q.2 - b).toNat (q.1 - a).toNat
def shL (a b : Int) (w h : Nat) (M : List Pt) : List Pt := (M.map fun q => (q.1 + a, q.2 + b)).filter fun q => insideB w h q.1 q.2
def copyL (R : Pic) (a b : Int) (w h : Nat) (M : List Pt) : Pic := paintV R (shL a b w h M) (shV R a b)
theorem px_lt0 {w h i j : Nat} {R : Pic} (G : Good w h R) : px R j i < 10 := by
  unfold px
  rw [List.getD_eq_getElem?_getD, List.getD_eq_getElem?_getD]
  cases e : R[j]? with
  | none => exact Nat.lt_of_lt_of_le (by rw [Option.getD_none, List.getElem?_nil]; decide) (Nat.le_refl 10)
  | some r =>
    rw [Option.getD_some]
    cases f : r[i]? with
    | none => decide
    | some d => exact G.d r (List.mem_of_getElem? e) d (List.mem_of_getElem? f)
theorem ins_iff {w h : Nat} {x y : Int} : insideB w h x y = true ↔ 0 ≤ x ∧ x < w ∧ 0 ≤ y ∧ y < h := by
  unfold insideB
  simp only [Bool.and_eq_true, decide_eq_true_eq]
  omega
theorem shL_ok {a b : Int} {w h : Nat} {M : List Pt} : ∀ q ∈ shL a b w h M, 0 ≤ q.1 ∧ 0 ≤ q.2 ∧ q.2.toNat < h := fun q hq => by
  have := ins_iff.mp (List.mem_filter.mp hq).2
  omega
theorem shL_snoc {a b : Int} {w h : Nat} {M : List Pt} {q : Pt} : shL a b w h (M ++ [q]) = if insideB w h (q.1 + a) (q.2 + b) = true then shL a b w h M ++ [(q.1 + a, q.2 + b)] else shL a b w h M := by
  unfold shL
  rw [List.map_append, List.filter_append]
  by_cases c : insideB w h (q.1 + a) (q.2 + b) = true
  · rw [if_pos c, List.map_cons, List.map_nil, List.filter_cons, if_pos c, List.filter_nil]
  · rw [if_neg c, List.map_cons, List.map_nil, List.filter_cons, if_neg c, List.filter_nil, List.append_nil]
theorem shV_at {R : Pic} {a b : Int} {i j : Nat} : shV R a b ((i : Int) + a, (j : Int) + b) = px R j i := by
  unfold shV
  simp only
  rw [show (j : Int) + b - b = (j : Int) from by omega, show (i : Int) + a - a = (i : Int) from by omega]
  rfl
theorem copyL_good {w h : Nat} {R : Pic} {a b : Int} {M : List Pt} (G : Good w h R) : Good w h (copyL R a b w h M) := paintV_good G (fun _ _ => px_lt0 G) fun q hq => (shL_ok q hq).2.2
theorem copyL_congr {w h : Nat} {R : Pic} {a b : Int} {A B : List Pt} (G : Good w h R) (e : ∀ q, q ∈ A ↔ q ∈ B) : copyL R a b w h A = copyL R a b w h B :=
  paintV_congr G (fun _ _ => px_lt0 G) shL_ok fun q => by
    unfold shL
    rw [List.mem_filter, List.mem_filter, List.mem_map, List.mem_map]
    simp only [e]
/-! ### deeds with places -/
structure DfC (K : PySem.W.Frag) (C : Addr) (a b c d : Str) : Prop where
  cl : Cls K C
  n1 : NoAttr K C a
  n2 : NoAttr K C b
  n3 : NoAttr K C c
  n4 : NoAttr K C d
theorem df_bx : ¬ ("box" : Str) = "x" := by decide +kernel
theorem df_by : ¬ ("box" : Str) = "y" := by decide +kernel
theorem df_xy : ¬ ("x" : Str) = "y" := by decide +kernel
theorem df_xd : ¬ ("x" : Str) = "is_deed" := by decide +kernel
theorem df_yd : ¬ ("y" : Str) = "is_deed" := by decide +kernel
/-- a value that stands for a place, as the law builds it -/
structure PvW (K : PySem.W.Frag) (C : Addr) (H : Hp) (v : V) (t : P3) : Prop where
  v : PvG C H v t
  b : bdP t = true
  nw : ∀ {H : Hp} {q : Addr} {t : P3}, PAt C H q t → NotW K H (.ref q)
theorem PvW.same {K : PySem.W.Frag} {C : Addr} {H H' : Hp} {v : V} {t : P3} (h : PvW K C H v t) (e : Same H H') : PvW K C H' v t := ⟨h.v.same e, h.b, h.nw⟩
theorem PvW.keep {K : PySem.W.Frag} {C CI p dx : Addr} {H H' : Hp} {v : V} {t : P3} {fs : List (Str × V)} (h : PvW K C H v t) (nC : C ≠ CI) (hp : H p = some (.ins CI dx fs)) (e : Keep p H H') : PvW K C H' v t := by
  refine ⟨?_, h.b, h.nw⟩
  rcases h.v with z | ⟨q, z, g⟩
  · exact .inl z
  · exact .inr ⟨q, z, g.keep e (g.ne nC hp)⟩
/-- need_place of such a value -/
theorem use_needP {K : PySem.W.Frag} {C CB : Addr} {H : Hp} {v : V} {x : Str} {t : P3} {Q : VK} {E : XK} (h : PvW K C H v t) (k : ∀ (p : Addr) (H' : Hp), PAt C H' p t → Same H H' → Q (.ref p) H') : spNeedP K C CB [v, .str x] H Q E := by
  refine ⟨v, x, rfl, .inr ?_⟩
  obtain ⟨s, o, d⟩ := t
  rcases h.v with ⟨rfl, h1, h2⟩ | ⟨q, rfl, g⟩
  · obtain rfl : s = 0 := h1
    obtain rfl : d = 0 := h2
    exact ⟨0, o, 0, .inl ⟨rfl, rfl, rfl⟩, h.b, fun p H' g e => k p H' g e⟩
  · exact ⟨s, o, d, .inr ⟨q, rfl, h.nw g, g⟩, h.b, fun p H' g e => k p H' g e⟩
abbrev fsP (qx qy : Addr) (fs : List (Str × V)) : List (Str × V) := putF "y" (.ref qy) (putF "x" (.ref qx) fs)
abbrev fsPD (qx qy : Addr) (fs : List (Str × V)) : List (Str × V) := putF "is_deed" (.bl true) (fsP qx qy fs)
/-- Pointed.__init__ with no rest -/
def spPtI (K : PySem.W.Frag) (CI C : Addr) : Sp := fun vs H Q _ => ∃ (p dx d : Addr) (vx vy : V) (fs : List (Str × V)) (tx ty : P3), vs = [.ref p, vx, vy, .ref d] ∧ H p = some (.ins CI dx fs) ∧ fs.length < 700 ∧ H d = some (.dK (kwK [] [])) ∧ PvW K C H vx tx ∧ PvW K C H vy ty ∧
  ∀ (qx qy : Addr) (H' : Hp), Keep p H H' → PAt C H' qx tx → PAt C H' qy ty → H' p = some (.ins CI dx (fsPD qx qy fs)) → Q .non H'
/-- Boxed.__init__ with two places -/
def spBoxdPI (K : PySem.W.Frag) (CI C CX : Addr) : Sp := fun vs H Q _ => ∃ (p dx d q : Addr) (vx vy : V) (fs : List (Str × V)) (t0 t1 t2 t3 tx ty : P3), vs = [.ref p, .ref q, .ref d] ∧ H p = some (.ins CI dx fs) ∧ fs.length < 600 ∧ H d = some (.dK (kwK ["x", "y"] [vx, vy])) ∧ BoxAt C CX H q t0 t1 t2 t3 ∧ PvW K C H vx tx ∧ PvW K C H vy ty ∧
  ∀ (qx qy : Addr) (H' : Hp), Keep p H H' → PAt C H' qx tx → PAt C H' qy ty → H' p = some (.ins CI dx (fsPD qx qy (putF "box" (.ref q) fs))) → Q .non H'
def cpF (q qx qy : Addr) : List (Str × V) := [("box", .ref q), ("x", .ref qx), ("y", .ref qy), ("is_deed", .bl true)]
theorem cp_make {q qx qy : Addr} : fsPD qx qy (putF "box" (.ref q) []) = cpF q qx qy := by
  unfold fsPD fsP
  rw [pf_nil, pf_miss df_bx, pf_nil, pf_miss df_by, pf_miss df_xy, pf_nil, pf_miss df_bd, pf_miss df_xd, pf_miss df_yd, pf_nil]
  rfl
theorem cp_box {q qx qy : Addr} : List.lookup ("box" : Str) (cpF q qx qy) = some (.ref q) := lk_hit
theorem cp_x {q qx qy : Addr} : List.lookup ("x" : Str) (cpF q qx qy) = some (.ref qx) := (lk_miss df_bx).trans lk_hit
theorem cp_y {q qx qy : Addr} : List.lookup ("y" : Str) (cpF q qx qy) = some (.ref qy) := (lk_miss df_by).trans ((lk_miss df_xy).trans lk_hit)
theorem cp_no {q qx qy : Addr} {m : Str} (a : ¬ ("box" : Str) = m) (b : ¬ ("x" : Str) = m) (c : ¬ ("y" : Str) = m) (d : ¬ ("is_deed" : Str) = m) : List.lookup m (cpF q qx qy) = none := (lk_miss a).trans ((lk_miss b).trans ((lk_miss c).trans ((lk_miss d).trans rfl)))
def spCopyI (K : PySem.W.Frag) (CI C CX : Addr) : Sp := fun vs H Q _ => ∃ (p dx q : Addr) (vx vy : V) (t0 t1 t2 t3 tx ty : P3), vs = [.ref p, .ref q, vx, vy] ∧ H p = some (.ins CI dx []) ∧ BoxAt C CX H q t0 t1 t2 t3 ∧ PvW K C H vx tx ∧ PvW K C H vy ty ∧
  ∀ (qx qy : Addr) (H' : Hp), Keep p H H' → PAt C H' qx tx → PAt C H' qy ty → H' p = some (.ins CI dx (cpF q qx qy)) → Q .non H'
structure CopyAt (C CX CO : Addr) (H : Hp) (p : Addr) (t0 t1 t2 t3 tx ty : P3) : Prop where
  at_ : ∃ dx q qx qy, H p = some (.ins CO dx (cpF q qx qy)) ∧ BoxAt C CX H q t0 t1 t2 t3 ∧ PAt C H qx tx ∧ PAt C H qy ty
theorem CopyAt.same {C CX CO p : Addr} {H H' : Hp} {t0 t1 t2 t3 tx ty : P3} (h : CopyAt C CX CO H p t0 t1 t2 t3 tx ty) (e : Same H H') : CopyAt C CX CO H' p t0 t1 t2 t3 tx ty := let ⟨dx, q, qx, qy, a, b, c, d⟩ := h.at_; ⟨dx, q, qx, qy, e _ _ a, b.same e, c.same e, d.same e⟩
theorem cp_nowidth {q qx qy : Addr} : List.lookup ("width" : Str) (cpF q qx qy) = none := cp_no (by decide +kernel) (by decide +kernel) (by decide +kernel) (by decide +kernel)
theorem CopyAt.insK {C CX CO p : Addr} {H H' : Hp} {t0 t1 t2 t3 tx ty : P3} (h : CopyAt C CX CO H p t0 t1 t2 t3 tx ty) (e : InsK H H') : CopyAt C CX CO H' p t0 t1 t2 t3 tx ty := let ⟨dx, q, qx, qy, a, b, c, d⟩ := h.at_; ⟨dx, q, qx, qy, e _ _ _ _ a cp_nowidth, BoxAt.insK b e, PAt.insK c e, PAt.insK d e⟩
theorem use_copy {K : PySem.W.Frag} {C CX CO q : Addr} {H : Hp} {vx vy : V} {t0 t1 t2 t3 tx ty : P3} {Q : VK} {E : XK} (bx : BoxAt C CX H q t0 t1 t2 t3) (gx : PvW K C H vx tx) (gy : PvW K C H vy ty) (k : ∀ (p : Addr) (H' : Hp), H p = none → CopyAt C CX CO H' p t0 t1 t2 t3 tx ty → Same H H' → Q (.ref p) H') : MakeK CO (spCopyI K CO C CX) E Q [.ref q, vx, vy] H := by
  intro x dx hx hdx hne
  have sm : Same H (upd (upd H dx (.own x)) x (.ins CO dx [])) := fun b u e => by
    rw [upd_ne (ne_of_none e hx), upd_ne (ne_of_none e hdx)]
    exact e
  refine ⟨x, dx, q, vx, vy, t0, t1, t2, t3, tx, ty, rfl, upd_same, bx.same sm, gx.same sm, gy.same sm, fun qx qy H' kp px py e => ⟨rfl, ?_⟩⟩
  have sm' : Same H H' := fun b u e => kp b u (sm b u e) (ne_of_none e hx)
  exact k x H' hx ⟨dx, q, qx, qy, e, bx.same sm', px, py⟩ sm'
/-- o.point(canvas) of an instance of CI whose fields are fs -/
def spPoint (C CI CV : Addr) : Sp := fun vs H Q _ => ∃ (p c dx qx qy : Addr) (fs : List (Str × V)) (tx ty : P3) (L : Pic) (w h : Nat), vs = [.ref p, .ref c] ∧ H p = some (.ins CI dx fs) ∧ List.lookup ("x" : Str) fs = some (.ref qx) ∧ List.lookup ("y" : Str) fs = some (.ref qy) ∧ PAt C H qx tx ∧ PAt C H qy ty ∧ CvG CV H c w h L ∧ Fit w h ∧ SmP tx ∧ SmP ty ∧
  ∀ (t : Addr) (H' : Hp), H' t = some (.tup [.int (plv tx.1 tx.2.1 tx.2.2 w), .int (plv ty.1 ty.2.1 ty.2.2 h)]) → Same H H' → Q (.ref t) H'
/-- is_pixel(width, height, x, y) -/
def spIsPx : Sp := fun vs H Q _ => ∃ (w h : Nat) (x y : Int), vs = [.int w, .int h, .int x, .int y] ∧ Q (.bl (insideB w h x y)) H
def spCopyOn (C CX CO CV : Addr) : Sp := fun vs H Q _ => ∃ (p c : Addr) (t0 t1 t2 t3 tx ty : P3) (L : Pic) (w h : Nat), vs = [.ref p, .ref c] ∧ CopyAt C CX CO H p t0 t1 t2 t3 tx ty ∧ CvG CV H c w h L ∧ Fit w h ∧ SmP t0 ∧ SmP t1 ∧ SmP t2 ∧ SmP t3 ∧ SmP tx ∧ SmP ty ∧
  ∀ x0 x1 y0 y1, bxV t0 t1 t2 t3 w h = [x0, x1, y0, y1] → ∀ H', CvG CV H' c w h (copyL L (plv tx.1 tx.2.1 tx.2.2 w - x0) (plv ty.1 ty.2.1 ty.2.2 h - y0) w h (pixIn x0 x1 y0 y1 w h)) → Keep c H H' → Q .non H'
end Hf
namespace Hf
open PySem PySem.Spec PyProof.Rows L2
/-! ### k38: the law's copies -/
def ToldC (H : Hp) (q : Addr) (t0 t1 t2 t3 tx ty : P3) : Prop := ∃ qb qx qy : Addr, H q = some (.tup [.str "copy", .ref qb, .ref qx, .ref qy]) ∧ FourT H qb t0 t1 t2 t3 ∧ TAt H qx tx ∧ TAt H qy ty
theorem ToldC.same {H H' : Hp} {q : Addr} {t0 t1 t2 t3 tx ty : P3} (h : ToldC H q t0 t1 t2 t3 tx ty) (e : Same H H') : ToldC H' q t0 t1 t2 t3 tx ty := let ⟨qb, qx, qy, a, f, x, y⟩ := h; ⟨qb, qx, qy, e _ _ a, f.same e, x.same e, y.same e⟩
theorem TAt.penK {H H' : Hp} {q b c : Addr} {t : P3} {k : Nat} (h : TAt H q t) (P : Pen H b c k) (e : Keep b H H') : TAt H' q t := let ⟨_, hb⟩ := P.lst; e _ _ h (TAt.ne h hb)
theorem ToldC.pen {H H' : Hp} {q b c : Addr} {t0 t1 t2 t3 tx ty : P3} {k : Nat} (h : ToldC H q t0 t1 t2 t3 tx ty) (P : Pen H b c k) (e : Keep b H H') : ToldC H' q t0 t1 t2 t3 tx ty := by
  obtain ⟨qb, qx, qy, a, f, x, y⟩ := h
  obtain ⟨xs, hb⟩ := id P.lst
  exact ⟨qb, qx, qy, e _ _ a (fun z => by rw [z, hb] at a; cases a), f.pen P e, x.penK P e, y.penK P e⟩
def spLBuiltC (C CX CO : Addr) : Sp := fun vs H Q _ => ∃ (b c q : Addr) (k : Nat) (t0 t1 t2 t3 tx ty : P3), vs = [.ref b, .ref q] ∧ Pen H b c (k + 6) ∧ ToldC H q t0 t1 t2 t3 tx ty ∧ FarP t0 ∧ FarP t1 ∧ FarP t2 ∧ FarP t3 ∧ FarP tx ∧ FarP ty ∧
  ∀ (p : Addr) (H' : Hp), CopyAt C CX CO H' p t0 t1 t2 t3 tx ty → Pen H' b c k → Keep b H H' → Q (.ref p) H'
def spLIsPx : Sp := fun vs H Q _ => ∃ (g : Addr) (R : Pic) (w h : Nat) (x y : Int), vs = [.ref g, .int x, .int y] ∧ GrG H g R ∧ Good w h R ∧ Fit w h ∧ Q (.bl (insideB w h x y)) H
def spLCopied : Sp := fun vs H Q _ => ∃ (g q : Addr) (R : Pic) (w h : Nat) (t0 t1 t2 t3 tx ty : P3), vs = [.ref g, .ref q] ∧ GrG H g R ∧ Good w h R ∧ Fit w h ∧ ToldC H q t0 t1 t2 t3 tx ty ∧ FarP t0 ∧ FarP t1 ∧ FarP t2 ∧ FarP t3 ∧ FarP tx ∧ FarP ty ∧
  ∀ x0 x1 y0 y1, bxV t0 t1 t2 t3 w h = [x0, x1, y0, y1] → ∀ (g' : Addr) (H' : Hp), H g' = none → GrG H' g' (copyL R (plv tx.1 tx.2.1 tx.2.2 w - x0) (plv ty.1 ty.2.1 ty.2.2 h - y0) w h (winL x0 x1 y0 y1 w h)) → Same H H' → Q (.ref g') H'
def spLNoise (CV : Addr) : Sp := fun vs H Q _ => ∃ (b c p : Addr) (k w h : Nat) (R : Pic), vs = [.ref b, .ref p] ∧ CvG CV H p w h R ∧ Fit w h ∧ Pen H b c (k + h * w) ∧
  ∀ (g' : Addr) (R' : Pic) (H' : Hp), CvG CV H' p w h R' → GrG H' g' R' → Pen H' b c k → Q (.ref g') H'
def spLBoxN (m : Nat) : Sp := fun vs H Q _ => ∃ (b c : Addr) (k : Nat), vs = [.ref b] ∧ Pen H b c (k + m) ∧ ∀ (q : Addr) (t0 t1 t2 t3 : P3) (H' : Hp), FourT H' q t0 t1 t2 t3 → NearP t0 → NearP t1 → NearP t2 → NearP t3 → Pen H' b c k → Keep b H H' → Q (.ref q) H'
def spLNearC : Sp := fun vs H Q _ => ∃ (b c q : Addr) (k : Nat) (t0 t1 t2 t3 : P3), vs = [.ref b, .ref q] ∧ FourT H q t0 t1 t2 t3 ∧ NearP t0 ∧ NearP t1 ∧ NearP t2 ∧ NearP t3 ∧ Pen H b c (k + 5) ∧
  ∀ (t qx qy : Addr) (tx ty : P3) (H' : Hp), H' t = some (.tup [.ref qx, .ref qy]) → TAt H' qx tx → TAt H' qy ty → FarP tx → FarP ty → Pen H' b c k → Keep b H H' → Q (.ref t) H'
theorem copy_win {w h : Nat} {R : Pic} {a b x0 x1 y0 y1 : Int} (G : Good w h R) : copyL R a b w h (winL x0 x1 y0 y1 w h) = copyL R a b w h (pixIn x0 x1 y0 y1 w h) := copyL_congr G fun q => winL_eq
/-- all pixels painted: the picture whose colours they have -/
theorem paint_whole {w h : Nat} {R S : Pic} (G : Good w h R) (GS : Good w h S) : paintV R (boxP 0 w 0 h) (fun q => px S q.2.toNat q.1.toNat) = S := by
  have ok : ∀ q ∈ boxP 0 w 0 h, 0 ≤ q.1 ∧ 0 ≤ q.2 ∧ q.2.toNat < h := fun q hq => by
    have := boxP_mem.mp hq
    omega
  refine pic_ext (paintV_good G (fun _ _ => px_lt0 GS) fun q hq => (ok q hq).2.2) GS fun j i hj hi => ?_
  rw [paintV_px G (fun _ _ => px_lt0 GS) ok hi hj, if_pos (boxP_mem.mpr (by show (0 : Int) ≤ i ∧ (i : Int) < 0 + w ∧ 0 ≤ (j : Int) ∧ (j : Int) < 0 + h; omega))]
  rfl
theorem items_num : ∀ {ys : List V}, (∀ y ∈ ys, ∃ d : Nat, y = inum d ∧ d < 10) → ∃ r : List Nat, ys = r.map inum ∧ r.length = ys.length ∧ ∀ d ∈ r, d < 10
  | [], _ => ⟨[], rfl, rfl, fun d h => (List.not_mem_nil h).elim⟩
  | y :: ys, h => by
    obtain ⟨d, rfl, hd⟩ := h y List.mem_cons_self
    obtain ⟨r, rfl, l, hr⟩ := items_num fun z hz => h z (List.mem_cons_of_mem _ hz)
    exact ⟨d :: r, rfl, by rw [List.length_cons, List.length_cons, l], fun z hz => by
      rcases List.mem_cons.mp hz with rfl | hz
      · exact hd
      · exact hr z hz⟩
theorem GI.putR {H : Hp} {fo : Addr} {rs : List Addr} {S : Pic} {xs : List V} (g : GI H rs S) (e : H fo = some (.lst (rs.map V.ref))) : GI (upd H fo (.lst xs)) rs S := by
  cases rs with
  | nil => cases g; exact .nil
  | cons r rs => exact F2.imp (fun a row z => by rw [upd_ne (num_ne e z)]; exact z) g
theorem CvG.putR {C p fo : Addr} {H : Hp} {w h : Nat} {L : Pic} {rs : List Addr} {xs : List V} (x : CvG C H p w h L) (h1 : 1 ≤ h) (e : H fo = some (.lst (rs.map V.ref))) : CvG C (upd H fo (.lst xs)) p w h L := x.keepL e (fun l hl z => by
  have lh := x.g.h
  rw [z, e] at hl
  cases L with
  | nil => rw [List.length_nil] at lh; omega
  | cons a L => cases rs <;> cases hl) Keep.upd
theorem tat_ne {H : Hp} {q b : Addr} {t : P3} {xs : List V} (h : TAt H q t) (hb : H b = some (.lst xs)) : q ≠ b := TAt.ne h hb
end Hf
namespace Kx
open PySem PySem.Spec PyProof.Rows L2 Hf
def top (i : Nat) : Stmt := PySem.Challenge.pw_heldfloods_k38_copies_by_pixels.main.body.getD i (.Pass ⟨0, 0, 0, 0⟩)
abbrev s_BadPlace_init : Stmt := (inClass (top 3) 0)
abbrev s_BadSize_init : Stmt := (inClass (top 4) 0)
abbrev s_BadColour_init : Stmt := (inClass (top 5) 0)
abbrev s_BadPixel_init : Stmt := (inClass (top 6) 0)
abbrev s_is_whole : Stmt := (top 14)
theorem sc_is_whole : FnScope ["value"] ["value"] (defScope s_is_whole) := ⟨rfl, rfl, rfl, by decide +kernel, rfl, by decide +kernel, by decide +kernel⟩
abbrev s_value_at : Stmt := (top 16)
theorem sc_value_at : FnScope ["slope", "offset", "odd", "size"] ["slope", "offset", "odd", "size"] (defScope s_value_at) := ⟨rfl, rfl, rfl, by decide +kernel, rfl, by decide +kernel, by decide +kernel⟩
abbrev s_as_place : Stmt := (top 24)
theorem sc_as_place : FnScope ["value", "found", "parts", "part"] ["value"] (defScope s_as_place) := ⟨rfl, rfl, rfl, by decide +kernel, rfl, by decide +kernel, by decide +kernel⟩
abbrev s_Place_init : Stmt := (inClass (top 18) 0)
theorem sc_Place_init : FnScope ["self", "slope", "offset", "odd", "part", "value"] ["self", "slope", "offset", "odd"] (defScope s_Place_init) := ⟨rfl, rfl, rfl, by decide +kernel, rfl, by decide +kernel, by decide +kernel⟩
abbrev s_Place_call : Stmt := (inClass (top 18) 2)
theorem sc_Place_call : FnScope ["self", "size"] ["self", "size"] (defScope s_Place_call) := ⟨rfl, rfl, rfl, by decide +kernel, rfl, by decide +kernel, by decide +kernel⟩
abbrev s_need_place : Stmt := (top 26)
theorem sc_need_place : FnScope ["value", "part", "found"] ["value", "part"] (defScope s_need_place) := ⟨rfl, rfl, rfl, by decide +kernel, rfl, by decide +kernel, by decide +kernel⟩
abbrev s_need_length : Stmt := (top 27)
theorem sc_need_length : FnScope ["value", "part"] ["value", "part"] (defScope s_need_length) := ⟨rfl, rfl, rfl, by decide +kernel, rfl, by decide +kernel, by decide +kernel⟩
abbrev s_Box_init : Stmt := (inClass (top 28) 0)
theorem sc_Box_init : FnScope ["self", "x0", "x1", "y0", "y1"] ["self", "x0", "x1", "y0", "y1"] (defScope s_Box_init) := ⟨rfl, rfl, rfl, by decide +kernel, rfl, by decide +kernel, by decide +kernel⟩
abbrev s_Box_call : Stmt := (inClass (top 28) 3)
theorem sc_Box_call : FnScope ["self", "width", "height"] ["self", "width", "height"] (defScope s_Box_call) := ⟨rfl, rfl, rfl, by decide +kernel, rfl, by decide +kernel, by decide +kernel⟩
abbrev s_pixels_in : Stmt := (top 29)
abbrev s_is_pixel : Stmt := (top 31)
theorem sc_is_pixel : FnScope ["width", "height", "x", "y"] ["width", "height", "x", "y"] (defScope s_is_pixel) := ⟨rfl, rfl, rfl, by decide +kernel, rfl, by decide +kernel, by decide +kernel⟩
abbrev s_is_colour : Stmt := (top 41)
theorem sc_is_colour : FnScope ["value"] ["value"] (defScope s_is_colour) := ⟨rfl, rfl, rfl, by decide +kernel, rfl, by decide +kernel, by decide +kernel⟩
abbrev s_need_colour : Stmt := (top 42)
theorem sc_need_colour : FnScope ["value"] ["value"] (defScope s_need_colour) := ⟨rfl, rfl, rfl, by decide +kernel, rfl, by decide +kernel, by decide +kernel⟩
abbrev s_need_sizes : Stmt := (top 44)
theorem sc_need_sizes : FnScope ["width", "height", "part", "value"] ["width", "height"] (defScope s_need_sizes) := ⟨rfl, rfl, rfl, by decide +kernel, rfl, by decide +kernel, by decide +kernel⟩
abbrev s_is_inside : Stmt := (top 34)
theorem sc_is_inside : FnScope ["rows", "x", "y"] ["rows", "x", "y"] (defScope s_is_inside) := ⟨rfl, rfl, rfl, by decide +kernel, rfl, by decide +kernel, by decide +kernel⟩
abbrev s_need_pixel : Stmt := (top 45)
theorem sc_need_pixel : FnScope ["rows", "x", "y"] ["rows", "x", "y"] (defScope s_need_pixel) := ⟨rfl, rfl, rfl, by decide +kernel, rfl, by decide +kernel, by decide +kernel⟩
abbrev s_is_line : Stmt := (top 46)
theorem sc_is_line : FnScope ["value", "sign"] ["value"] (defScope s_is_line) := ⟨rfl, rfl, rfl, by decide +kernel, rfl, by decide +kernel, by decide +kernel⟩
abbrev s_wrong_line : Stmt := (top 47)
theorem sc_wrong_line : FnScope ["rows", "at", "row"] ["rows"] (defScope s_wrong_line) := ⟨rfl, rfl, rfl, by decide +kernel, rfl, by decide +kernel, by decide +kernel⟩
abbrev s_Picture_init : Stmt := (inClass (top 52) 1)
theorem sc_Picture_init : FnScope ["self", "rows", "wrong"] ["self", "rows"] (defScope s_Picture_init) := ⟨rfl, rfl, rfl, by decide +kernel, rfl, by decide +kernel, by decide +kernel⟩
abbrev s_Picture_getitem : Stmt := (inClass (top 52) 9)
theorem sc_Picture_getitem : FnScope ["self", "at", "x", "y"] ["self", "at"] (defScope s_Picture_getitem) := ⟨rfl, rfl, rfl, by decide +kernel, rfl, by decide +kernel, by decide +kernel⟩
abbrev s_Canvas_init : Stmt := (inClass (top 73) 1)
theorem sc_Canvas_init : FnScope ["self", "width", "height"] ["self", "width", "height"] (defScope s_Canvas_init) := ⟨rfl, rfl, rfl, by decide +kernel, rfl, by decide +kernel, by decide +kernel⟩
abbrev s_Canvas_picture : Stmt := (inClass (top 73) 2)
theorem sc_Canvas_picture : FnScope ["self"] ["self"] (defScope s_Canvas_picture) := ⟨rfl, rfl, rfl, by decide +kernel, rfl, by decide +kernel, by decide +kernel⟩
abbrev s_Canvas_setitem : Stmt := (inClass (top 73) 12)
theorem sc_Canvas_setitem : FnScope ["self", "at", "worth", "x", "y", "lines"] ["self", "at", "worth"] (defScope s_Canvas_setitem) := ⟨rfl, rfl, rfl, by decide +kernel, rfl, by decide +kernel, by decide +kernel⟩
abbrev s_Deed_init : Stmt := (inClass (top 55) 1)
theorem sc_Deed_init : FnScope ["self"] ["self"] (defScope s_Deed_init) := ⟨rfl, rfl, rfl, by decide +kernel, rfl, by decide +kernel, by decide +kernel⟩
abbrev s_Boxed_init : Stmt := (inClass (top 56) 0)
abbrev s_Pointed_init : Stmt := (inClass (top 57) 0)
abbrev s_Pointed_point : Stmt := (inClass (top 57) 2)
theorem sc_Pointed_point : FnScope ["self", "canvas"] ["self", "canvas"] (defScope s_Pointed_point) := ⟨rfl, rfl, rfl, by decide +kernel, rfl, by decide +kernel, by decide +kernel⟩
abbrev s_Copy_init : Stmt := (inClass (top 63) 1)
abbrev s_Copy_on : Stmt := (inClass (top 63) 2)
theorem sc_Copy_on : FnScope ["self", "canvas", "x0", "x1", "y0", "y1", "x", "y", "elder", "spots", "i", "j"] ["self", "canvas"] (defScope s_Copy_on) := ⟨rfl, rfl, rfl, by decide +kernel, rfl, by decide +kernel, by decide +kernel⟩
abbrev s_l_pen : Stmt := (top 75)
theorem sc_l_pen : FnScope ["_law_script"] ["_law_script"] (defScope s_l_pen) := ⟨rfl, rfl, rfl, by decide +kernel, rfl, by decide +kernel, by decide +kernel⟩
abbrev s_l_draw : Stmt := (top 76)
theorem sc_l_draw : FnScope ["_law_pen_here", "_law_many", "_law_digit", "_law_at_here", "_law_cell", "_law_great", "_law_mixed"] ["_law_pen_here", "_law_many"] (defScope s_l_draw) := ⟨rfl, rfl, rfl, by decide +kernel, rfl, by decide +kernel, by decide +kernel⟩
abbrev s_l_pick : Stmt := (top 77)
theorem sc_l_pick : FnScope ["_law_pen_here", "_law_some"] ["_law_pen_here", "_law_some"] (defScope s_l_pick) := ⟨rfl, rfl, rfl, by decide +kernel, rfl, by decide +kernel, by decide +kernel⟩
abbrev s_l_place : Stmt := (top 78)
theorem sc_l_place : FnScope ["_law_pen_here", "_law_k"] ["_law_pen_here"] (defScope s_l_place) := ⟨rfl, rfl, rfl, by decide +kernel, rfl, by decide +kernel, by decide +kernel⟩
abbrev s_l_at : Stmt := (top 79)
theorem sc_l_at : FnScope ["_law_place_here", "_law_size"] ["_law_place_here", "_law_size"] (defScope s_l_at) := ⟨rfl, rfl, rfl, by decide +kernel, rfl, by decide +kernel, by decide +kernel⟩
abbrev s_l_built_place : Stmt := (top 80)
theorem sc_l_built_place : FnScope ["_law_pen_here", "_law_place_here"] ["_law_pen_here", "_law_place_here"] (defScope s_l_built_place) := ⟨rfl, rfl, rfl, by decide +kernel, rfl, by decide +kernel, by decide +kernel⟩
abbrev s_l_box : Stmt := (top 81)
theorem sc_l_box : FnScope ["_law_pen_here", "_law_way", "_law_k"] ["_law_pen_here"] (defScope s_l_box) := ⟨rfl, rfl, rfl, by decide +kernel, rfl, by decide +kernel, by decide +kernel⟩
abbrev s_l_built_box : Stmt := (top 82)
theorem sc_l_built_box : FnScope ["_law_pen_here", "_law_four", "_law_some", "_law_place_here"] ["_law_pen_here", "_law_four"] (defScope s_l_built_box) := ⟨rfl, rfl, rfl, by decide +kernel, rfl, by decide +kernel, by decide +kernel⟩
abbrev s_l_ends : Stmt := (top 83)
theorem sc_l_ends : FnScope ["_law_box_here", "_law_width", "_law_height"] ["_law_box_here", "_law_width", "_law_height"] (defScope s_l_ends) := ⟨rfl, rfl, rfl, by decide +kernel, rfl, by decide +kernel, by decide +kernel⟩
abbrev s_l_built : Stmt := (top 85)
theorem sc_l_built : FnScope ["_law_pen_here", "_law_told", "_law_kind", "_law_x", "_law_y", "_law_deeds", "_law_one"] ["_law_pen_here", "_law_told"] (defScope s_l_built) := ⟨rfl, rfl, rfl, by decide +kernel, rfl, by decide +kernel, by decide +kernel⟩
abbrev s_l_is_pixel : Stmt := (top 86)
theorem sc_l_is_pixel : FnScope ["_law_grid", "_law_x", "_law_y"] ["_law_grid", "_law_x", "_law_y"] (defScope s_l_is_pixel) := ⟨rfl, rfl, rfl, by decide +kernel, rfl, by decide +kernel, by decide +kernel⟩
abbrev s_l_spots : Stmt := (top 87)
theorem sc_l_spots : FnScope ["_law_grid", "_law_found", "_law_y", "_law_x"] ["_law_grid"] (defScope s_l_spots) := ⟨rfl, rfl, rfl, by decide +kernel, rfl, by decide +kernel, by decide +kernel⟩
abbrev s_l_within : Stmt := (top 88)
theorem sc_l_within : FnScope ["_law_grid", "_law_box_here", "_law_x0", "_law_x1", "_law_y0", "_law_y1", "_law_x", "_law_y"] ["_law_grid", "_law_box_here"] (defScope s_l_within) := ⟨rfl, rfl, rfl, by decide +kernel, rfl, by decide +kernel, by decide +kernel⟩
abbrev s_l_copied : Stmt := (top 89)
theorem sc_l_copied : FnScope ["_law_grid", "_law_told", "_law_width", "_law_height", "_law_begin", "_law_by", "_law_found", "_law_x", "_law_y", "_law_line", "_law_row"] ["_law_grid", "_law_told"] (defScope s_l_copied) := ⟨rfl, rfl, rfl, by decide +kernel, rfl, by decide +kernel, by decide +kernel⟩
abbrev s_l_lines : Stmt := (top 90)
theorem sc_l_lines : FnScope ["_law_grid", "_law_row", "_law_one"] ["_law_grid"] (defScope s_l_lines) := ⟨rfl, rfl, rfl, by decide +kernel, rfl, by decide +kernel, by decide +kernel⟩
abbrev s_l_noise : Stmt := (top 91)
theorem sc_l_noise : FnScope ["_law_pen_here", "_law_canvas", "_law_rows", "_law_y", "_law_x"] ["_law_pen_here", "_law_canvas"] (defScope s_l_noise) := ⟨rfl, rfl, rfl, by decide +kernel, rfl, by decide +kernel, by decide +kernel⟩
abbrev s_l_near : Stmt := (top 92)
theorem sc_l_near : FnScope ["_law_pen_here", "_law_box_here", "_law_found", "_law_begin"] ["_law_pen_here", "_law_box_here"] (defScope s_l_near) := ⟨rfl, rfl, rfl, by decide +kernel, rfl, by decide +kernel, by decide +kernel⟩
abbrev s_law : Stmt := (top 93)
theorem sc_law : FnScope ["_law_script", "_law_pen_here", "_law_turn", "_law_canvas", "_law_grid", "_law_again_here", "_law_box_here", "_law_x", "_law_y", "_law_told", "_law_deed"] ["_law_script"] (defScope s_law) := ⟨rfl, rfl, rfl, by decide +kernel, rfl, by decide +kernel, by decide +kernel⟩
structure Txt (K : PySem.W.Frag) (mg : Str → Option Value) : Prop where
  b_ValueError : mg "ValueError" = none
  b_abs : mg "abs" = none
  b_all : mg "all" = none
  b_bool : mg "bool" = none
  b_enumerate : mg "enumerate" = none
  b_int : mg "int" = none
  b_isinstance : mg "isinstance" = none
  b_len : mg "len" = none
  b_list : mg "list" = none
  b_max : mg "max" = none
  b_min : mg "min" = none
  b_range : mg "range" = none
  b_repr : mg "repr" = none
  b_str : mg "str" = none
  b_super : mg "super" = none
  b_tuple : mg "tuple" = none
  b_zip : mg "zip" = none
open PySem PySem.Spec PyProof.Rows L2 Hf
local macro_rules | `(tactic| walk_at "r1") => `(tactic| with_reducible first
  | refine rd_seq ?_ | refine rd_bm ?_ | refine rd_lc ?_ | refine rd_yes ?_ | refine rd_raE ?_ | refine rd_makR ?_ | refine rd_par3 ?_ | refine rd_sl ?_ | refine rd_noPart ?_ | refine rd_part ?_ | refine rd_mkN ?_ | refine rd_chain ?_ | refine rd_m1 ?_ | refine rd_iStr ?_ | refine rd_iEnum ?_ | refine rd_iZipA ?_ | refine rd_iZipS ?_ | refine rd_dput ?_ | refine rd_meK ?_ | refine rd_prop ?_ | refine rd_iRngX ?_ | refine rd_revT ?_ | refine rd_revL ?_ | refine rd_revS ?_ | refine rd_iKeys ?_ | refine rd_stepL ?_ | refine rd_dget ?_ | refine rd_stat ?_ | refine rd_staK ?_ | refine rd_cval ?_ | refine rd_gsub ?_ | refine rd_clK ?_ | refine rd_callIK ?_ | refine rd_dnew ?_ | refine rd_jsC ?_ | refine rd_jsN ?_ | refine rd_fmt ?_ | refine rd_mkE ?_ | refine rd_for ?_ | refine rd_iList ?_ | refine rd_iTup ?_ | refine rd_iRng1 ?_ | refine rd_iRng2 ?_ | refine rd_asg ?_ | refine rd_gname ?_ | refine rd_ifS ?_ | refine rd_ret ?_ | refine rd_retN ?_ | refine rd_drop ?_ | refine rd_next ?_
  | refine rd_c ?_ | refine rd_op ?_ | refine rd_un ?_ | refine rd_cons ?_ | refine rd_nil ?_ | refine rd_test ?_ | refine rd_tB ?_ | refine rd_and ?_ | refine rd_or ?_ | refine rd_not ?_
  | refine rd_andV ?_ | refine rd_orV ?_ | refine rd_notV ?_ | refine rd_if ?_ | refine rd_cl ?_ | refine rd_methR ?_ | refine rd_makeR ?_ | refine rd_callO ?_ | refine rd_fld ?_ | refine rd_sfld ?_ | refine rd_cb ?_
  | refine rd_tupN ?_ | refine rd_lstN ?_ | refine rd_I0 ?_ | refine rd_U ?_ | refine rd_bl ?_ | refine rd_blP ?_ | refine rd_par ?_ | refine rd_par2 ?_ | refine rd_gcons ?_ | refine rd_gnil ?_)
local macro_rules | `(tactic| walk_at "rd") => `(tactic| repeat (first | walk_at "r1" | ((with_reducible refine' rd_var ?hh ?_); (case hh => exact rfl)) | ((with_reducible refine' rd_eq ?hh ?_); (case hh => exact rfl)) | ((with_reducible refine' rd_ne ?hh ?_); (case hh => exact rfl)) | ((with_reducible refine' rd_aug ?hh ?_); (case hh => exact rfl))))
local macro_rules | `(tactic| walk_at "pl") => `(tactic| repeat (first | walk_at "rd1" | (refine rd_fldK (by assumption) (PlC.cl (by assumption)) (by first | exact PlC.n1 (by assumption) | exact PlC.n2 (by assumption) | exact PlC.n3 (by assumption)) (by first | exact pl_slope | exact pl_offset | exact pl_odd) ?_)))
local macro_rules | `(tactic| walk_at "rd1") => `(tactic| first | walk_at "r1" | ((with_reducible refine' rd_var ?hh ?_); (case hh => exact rfl)) | ((with_reducible refine' rd_eq ?hh ?_); (case hh => exact rfl)) | ((with_reducible refine' rd_ne ?hh ?_); (case hh => exact rfl)) | ((with_reducible refine' rd_aug ?hh ?_); (case hh => exact rfl)))
local macro_rules | `(tactic| walk_at "lf") => `(tactic| first | assumption | (refine PlaceAt.same ?_ (by assumption); walk_at "lf") | (refine PlaceAt.keep ?_ (by assumption) (by assumption); walk_at "lf"))
local macro_rules | `(tactic| walk_at "lo") => `(tactic| first | assumption | (refine (by assumption : Same _ _) _ _ ?_; walk_at "lo") | (refine (by assumption : Keep _ _ _) _ _ ?_ (by assumption); walk_at "lo"))
local macro_rules | `(tactic| walk_at "sm") => `(tactic| first | assumption | exact Same.refl _ | exact same_tr (by assumption) (by walk_at "sm"))
local macro_rules | `(tactic| walk_at "hp") => `(tactic| first | assumption | ((with_reducible show (_ : Option HO) = some _); exact same_at (by assumption) (by walk_at "hp")) | ((with_reducible show PicG _ _ _ _ _ _); exact picg_at (by assumption) (by walk_at "hp")) | ((with_reducible show F2 _ _ _); exact tups_at (by assumption) (by walk_at "hp")) | ((with_reducible show Pen _ _ _ _); exact pen_at (by assumption) (by walk_at "hp")))
section
variable {P : Program} {w : World} {K : PySem.W.Frag} {mg : Str → Option Value} {base : Heap}
theorem ok_l_draw (T : Txt K mg) (D : DefAt K mg "_law_draw" s_l_draw ["_law_pen_here", "_law_many"]) : Cal P w K mg base 1 "_law_draw" spPDraw := by
  obtain ⟨f, fd, hm, F, b⟩ := D
  refine ⟨f, fnR0 F b sc_l_draw (fun vs H Q E h => ?_) (fun cdv A outer s H vs Q E hr h => ?_), hm, F.kp⟩
  · obtain ⟨b, c, kk, m, rfl, P, m0, m1, k⟩ := h
    rfl
  · obtain ⟨b, c, kk, m, rfl, P, m0, m1, k⟩ := h
    have hu := hu_of hr
    refine ⟨_, (pss_cons (ps_if (pt_cmpR op_gt (pe_ix ix_list (pv 0) pe_int (fun _ _ => rfl)) pe_int (nomark _)) (pss_cons (ps_set (i := 2) sc_l_draw.nd rfl (Or.inl rfl) (pe_op op_mod (pe_callTy call_int1 (by rfl) T.b_int (by decide +kernel) (pa_cons (pe_ix ix_list (pv 0) pe_int (fun _ _ => rfl)) pa_nil)) (pv 1)))
  (pss_cons (ps_asg (pe_op op_fdivW (pe_callTy call_int1 (by rfl) T.b_int (by decide +kernel) (pa_cons (pe_ix ix_list (pv 0) pe_int (fun _ _ => rfl)) pa_nil)) (pv 1)) (pg_sub (pv 0) pe_int set_list))
  (pss_one (ps_ret (pv 2))))) pss_nil)
  (pss_cons (ps_set (i := 3) sc_l_draw.nd rfl (Or.inl rfl) (pe_ix ix_list (pv 0) pe_int (fun _ _ => rfl)))
  (pss_cons (ps_asg (pe_op op_add (pv 3) pe_int) (pg_sub (pv 0) pe_int set_list))
  (pss_cons (ps_set (i := 4) sc_l_draw.nd rfl (Or.inl rfl) (pe_op op_add (pe_op op_mul pe_int (pv 3)) pe_int))
  (pss_cons (ps_if (pt_cmpR (op_neD hr.units) (pe_ix ix_list (pv 0) pe_int (fun _ _ => rfl)) (pe_lst pa_nil) (nomark _)) (pss_one (ps_set (i := 4) sc_l_draw.nd rfl (Or.inl rfl) (pe_ix ix_list (pe_ix ix_list (pv 0) pe_int (fun _ _ => rfl)) (pe_op op_mod (pe_callTy call_int1 (by rfl) T.b_int (by decide +kernel) (pa_cons (pv 3) pa_nil)) (pe_callB call_len_seq (by rfl) T.b_len (by decide +kernel) (pa_cons (pe_ix ix_list (pv 0) pe_int (fun _ _ => rfl)) pa_nil))) (fun _ _ => rfl)))) pss_nil)
  (pss_cons (ps_if (pw_and (pt_cmpR op_lt (pv 3) (pe_callB call_len_seq (by rfl) T.b_len (by decide +kernel) (pa_cons (pe_ix ix_list (pv 0) pe_int (fun _ _ => rfl)) pa_nil)) (nomark _)) (pw_and1 (pt_cmpR op_ge (pe_callB call_abs (by rfl) T.b_abs (by decide +kernel) (pa_cons (pv 4) pa_nil)) (pe_op op_pow pe_int pe_int) (nomark _)))).pt (pss_cons (ps_set (i := 5) sc_l_draw.nd rfl (Or.inl rfl) (pe_op op_add (pe_op op_mul pe_int (pe_op op_sub (pe_callB call_abs (by rfl) T.b_abs (by decide +kernel) (pa_cons (pv 4) pa_nil)) (pe_op op_pow pe_int pe_int))) (pe_callTy call_int1 (by rfl) T.b_int (by decide +kernel) (pa_cons (pe_cmpR op_lt (pv 4) pe_int (nomark _)) pa_nil))))
  (pss_cons (ps_asg (pe_op op_fdivW (pe_callTy call_int1 (by rfl) T.b_int (by decide +kernel) (pa_cons (pv 5) pa_nil)) (pv 1)) (pg_sub (pv 0) pe_int set_list))
  (pss_one (ps_ret (pe_op op_mod (pe_callTy call_int1 (by rfl) T.b_int (by decide +kernel) (pa_cons (pv 5) pa_nil)) (pv 1)))))) pss_nil)
  (pss_cons (ps_set (i := 6) sc_l_draw.nd rfl (Or.inl rfl) (pe_op op_mod (pe_callTy call_int1 (by rfl) T.b_int (by decide +kernel) (pa_cons (pe_op op_pow (pe_op op_add (pe_op op_add (pe_op op_mod (pe_callTy call_int1 (by rfl) T.b_int (by decide +kernel) (pa_cons (pv 4) pa_nil)) pe_int) (pe_op op_mul pe_int (pv 3))) pe_int) pe_int) pa_nil)) pe_int))
  (pss_cons (ps_set (i := 6) sc_l_draw.nd rfl (Or.inl rfl) (pe_op op_add (pe_op op_add (pe_op op_mul (pv 6) (pe_op op_add (pe_op op_mul pe_int (pv 3)) pe_int)) (pe_op op_mul (pe_op op_mul pe_int (pv 3)) (pv 3))) pe_int))
  (pss_one (ps_ret (pe_op op_mod (pe_callTy call_int1 (by rfl) T.b_int (by decide +kernel) (pa_cons (pe_op op_fdivW (pe_op op_mod (pe_callTy call_int1 (by rfl) T.b_int (by decide +kernel) (pa_cons (pe_op op_pow (pv 6) pe_int) pa_nil)) pe_int) pe_int) pa_nil)) (pv 1)))))))))))), ?_⟩
    try dsimp only [cxOf, Cx.nox, Cx.wish, List.map]
    obtain ⟨cs, n, r, h1, h2, n0, r0, n1⟩ := P
    have hcb := pen_ne h1 h2
    walk_at "rd"
    refine use_ixL (SqL.of h1) rfl ?_
    walk_at "rd"
    refine ite_split (fun hr0 => ?_) (fun hr0 => ?_)
    · have hr0 := of_decide_eq_true hr0
      walk_at "rd"
      refine use_ixL (SqL.of h1) rfl ?_
      refine .inl ⟨_, rfl, ?_⟩
      walk_at "rd"
      refine rd_I m0 ?_
      walk_at "rd"
      refine use_ixL (SqL.of h1) rfl ?_
      refine .inl ⟨_, rfl, ?_⟩
      walk_at "rd"
      refine rd_I (lim_div m0 m1 _) ?_
      walk_at "rd"
      refine use_setL h1 rfl ?_
      walk_at "rd"
      exact k _ _ (Int.emod_nonneg _ (by omega)) (Int.emod_lt_of_pos _ m0) ⟨cs, n, _, upd_same, by rw [upd_ne hcb]; exact h2, n0, Int.ediv_nonneg r0 (by omega), by omega⟩ Keep.upd
    · walk_at "rd"
      refine use_ixL (SqL.of h1) rfl ?_
      walk_at "rd"
      refine use_setL (j := 1) h1 rfl ?_
      have k1 := Keep.upd (H := H) (p := b) (o := .lst ([V.ref c, V.int n, V.int r].set 1 (V.int (n + 1))))
      have h2 := k1 _ _ h2 hcb
      have h1 := upd_same (H := H) (a := b) (o := .lst ([V.ref c, V.int n, V.int r].set 1 (V.int (n + 1))))
      generalize upd H b _ = H1 at *
      change H1 b = some (.lst [V.ref c, V.int (n + 1), V.int r]) at h1
      walk_at "rd"
      refine rd_I (cmul_l (by decide) (by decide)) ?_
      walk_at "rd"
      refine use_ixL (SqL.of h1) rfl ?_
      walk_at "rd"
      refine new_lst (by show 0 ≤ 1000; decide) fun l0 H2 nl el s2 => ?_
      have h1 := s2 _ _ h1
      have h2 := s2 _ _ h2
      have k2 := k1.trans (Keep.of s2)
      refine use_neD (.lst (SqL.of h2) (dp_ints cs)) (.lst (xs := []) (SqL.of el) .nil) (shp_ints cs) (shp_ints []) ?_
      rw [show PyData.eqv (.list (cs.map PyData.int)) (.list []) = decide (cs = []) from eqv_nil]
      walk_at "rd"
      refine if_fin (fun σ' H' => ∃ cell : Int, σ' = [some (.ref b), some (.int m), none, some (.int n), some (.int cell), none, none] ∧ H' = H2) ⟨_, rfl, rfl⟩ ?_ ?_
      · rintro σ' H' ⟨cell, rfl, rfl⟩
        walk_at "rd"
        refine use_ixL (SqL.of h1) rfl ?_
        refine ⟨c, _, rfl, .inl (SqL.of h2), ?_⟩
        walk_at "rd"
        refine ite_split (fun ha => ?_) (fun ha => ?_)
        · walk_at "rd"
          refine ⟨_, rfl, ?_⟩
          walk_at "rd"
          refine rd_I ⟨by decide, by decide, by decide⟩ ?_
          walk_at "rd"
          refine ite_split (fun hb => ?_) (fun hb => ?_)
          · have hb := of_decide_eq_true hb
            rw [p1018] at hb
            walk_at "rd"
            refine ⟨_, rfl, ?_⟩
            walk_at "rd"
            refine rd_I ⟨by decide, by decide, by decide⟩ ?_
            rw [p1018]
            walk_at "rd"
            refine rd_I (cmul_l (by decide) (by decide)) ?_
            walk_at "rd"
            refine .inr ⟨_, rfl, ?_⟩
            walk_at "rd"
            refine .inl ⟨_, rfl, ?_⟩
            walk_at "rd"
            refine rd_I (lim_div m0 m1 _) ?_
            walk_at "rd"
            refine use_setL (j := 2) h1 rfl ?_
            walk_at "rd"
            refine .inl ⟨_, rfl, ?_⟩
            walk_at "rd"
            refine rd_I m0 ?_
            have g0 : 0 ≤ 2 * ((if cell < 0 then -cell else cell) - 1000000000000000000) + (if decide (cell < 0) = true then 1 else 0) := by
              split at hb <;> split <;> (try split) <;> omega
            exact k _ _ (Int.emod_nonneg _ (by omega)) (Int.emod_lt_of_pos _ m0) ⟨cs, n + 1, _, upd_same, by rw [upd_ne hcb]; exact h2, by omega, Int.ediv_nonneg g0 (by omega), by omega⟩ (k2.trans Keep.upd)
          · walk_at "rd"
            refine .inl ⟨_, rfl, ?_⟩
            walk_at "rd"
            refine rd_I (by decide) ?_
            walk_at "rd"
            refine rd_I (cmul_l (by decide) (by decide)) ?_
            walk_at "rd"
            have c0 : 0 ≤ cell % 2147483629 := Int.emod_nonneg _ (by decide)
            have c1 : cell % 2147483629 < 2147483629 := Int.emod_lt_of_pos _ (by decide)
            refine rd_I ⟨by decide, by decide, nat_lt_64 (by omega) (by omega)⟩ ?_
            refine .inl ⟨_, rfl, ?_⟩
            walk_at "rd"
            refine rd_I (by decide) ?_
            walk_at "rd"
            generalize hM : ((cell % 2147483629 + 44295 * n + 363) ^ (5 : Int).toNat) % 2147483629 = mx
            have e0 : 0 ≤ mx := by rw [← hM]; exact Int.emod_nonneg _ (by decide)
            have e1 : mx < 2147483629 := by rw [← hM]; exact Int.emod_lt_of_pos _ (by decide)
            clear hM
            refine rd_I (cmul_l (by decide) (by decide)) ?_
            walk_at "rd"
            refine rd_I (cmul_l e0 (by omega)) ?_
            walk_at "rd"
            refine rd_I (cmul_l (by decide) (by decide)) ?_
            walk_at "rd"
            refine rd_I (cmul_l (by omega) (by omega)) ?_
            walk_at "rd"
            have f1 : mx * (2 * n + 177) ≤ 2147483647 * 2000999 := Int.mul_le_mul (by omega) (by omega) (by omega) (by decide)
            have f2 : 53453 * n * n ≤ 99999000000 * 1000000 := Int.mul_le_mul (by omega) (by omega) (by omega) (by decide)
            have f3 : 0 ≤ mx * (2 * n + 177) := Int.mul_nonneg e0 (by omega)
            have f4 : 0 ≤ 53453 * n * n := Int.mul_nonneg (by omega) (by omega)
            refine rd_I ⟨by decide, by decide, nat_lt_64 (by omega) (by omega)⟩ ?_
            refine .inl ⟨_, rfl, ?_⟩
            walk_at "rd"
            refine rd_I (by decide) ?_
            walk_at "rd"
            refine rd_I ⟨by decide, by decide⟩ ?_
            refine .inl ⟨_, rfl, ?_⟩
            walk_at "rd"
            refine rd_I m0 ?_
            walk_at "rd"
            exact k _ _ (Int.emod_nonneg _ (by omega)) (Int.emod_lt_of_pos _ m0) ⟨cs, n + 1, r, h1, h2, by omega, r0, by omega⟩ k2
        · refine iteF ?_
          walk_at "rd"
          refine .inl ⟨_, rfl, ?_⟩
          walk_at "rd"
          refine rd_I (by decide) ?_
          walk_at "rd"
          refine rd_I (cmul_l (by decide) (by decide)) ?_
          walk_at "rd"
          have c0 : 0 ≤ cell % 2147483629 := Int.emod_nonneg _ (by decide)
          have c1 : cell % 2147483629 < 2147483629 := Int.emod_lt_of_pos _ (by decide)
          refine rd_I ⟨by decide, by decide, nat_lt_64 (by omega) (by omega)⟩ ?_
          refine .inl ⟨_, rfl, ?_⟩
          walk_at "rd"
          refine rd_I (by decide) ?_
          walk_at "rd"
          generalize hM : ((cell % 2147483629 + 44295 * n + 363) ^ (5 : Int).toNat) % 2147483629 = mx
          have e0 : 0 ≤ mx := by rw [← hM]; exact Int.emod_nonneg _ (by decide)
          have e1 : mx < 2147483629 := by rw [← hM]; exact Int.emod_lt_of_pos _ (by decide)
          clear hM
          refine rd_I (cmul_l (by decide) (by decide)) ?_
          walk_at "rd"
          refine rd_I (cmul_l e0 (by omega)) ?_
          walk_at "rd"
          refine rd_I (cmul_l (by decide) (by decide)) ?_
          walk_at "rd"
          refine rd_I (cmul_l (by omega) (by omega)) ?_
          walk_at "rd"
          have f1 : mx * (2 * n + 177) ≤ 2147483647 * 2000999 := Int.mul_le_mul (by omega) (by omega) (by omega) (by decide)
          have f2 : 53453 * n * n ≤ 99999000000 * 1000000 := Int.mul_le_mul (by omega) (by omega) (by omega) (by decide)
          have f3 : 0 ≤ mx * (2 * n + 177) := Int.mul_nonneg e0 (by omega)
          have f4 : 0 ≤ 53453 * n * n := Int.mul_nonneg (by omega) (by omega)
          refine rd_I ⟨by decide, by decide, nat_lt_64 (by omega) (by omega)⟩ ?_
          refine .inl ⟨_, rfl, ?_⟩
          walk_at "rd"
          refine rd_I (by decide) ?_
          walk_at "rd"
          refine rd_I ⟨by decide, by decide⟩ ?_
          refine .inl ⟨_, rfl, ?_⟩
          walk_at "rd"
          refine rd_I m0 ?_
          walk_at "rd"
          exact k _ _ (Int.emod_nonneg _ (by omega)) (Int.emod_lt_of_pos _ m0) ⟨cs, n + 1, r, h1, h2, by omega, r0, by omega⟩ k2
      · intro hne fin
        have hne : cs ≠ [] := fun z => by rw [decide_eq_true z] at hne; cases hne
        have hl : 0 < cs.length := by
          cases cs with
          | nil => exact absurd rfl hne
          | cons _ _ => exact Nat.succ_pos _
        walk_at "rd"
        refine use_ixL (SqL.of h1) rfl ?_
        walk_at "rd"
        refine .inl ⟨_, rfl, ?_⟩
        walk_at "rd"
        refine use_ixL (SqL.of h1) rfl ?_
        refine ⟨c, _, rfl, .inl (SqL.of h2), ?_⟩
        walk_at "rd"
        rw [List.length_map]
        have q0 := Int.emod_nonneg n (show (cs.length : Int) ≠ 0 from by omega)
        have q1 := Int.emod_lt_of_pos n (show (0 : Int) < cs.length from by omega)
        refine rd_I (by omega) ?_
        obtain ⟨z, hz⟩ : ∃ z, cs[(n % (cs.length : Int)).toNat]? = some z := ⟨cs[(n % (cs.length : Int)).toNat]'(by omega), List.getElem?_eq_getElem (by omega)⟩
        have hix : atI (cs.map V.int) (n % (cs.length : Int)) = some (.int z) := by
          have e := atI_nat (xs := cs.map V.int) (j := (n % (cs.length : Int)).toNat) (v := .int z) (by rw [List.getElem?_map, hz]; rfl)
          rw [Int.toNat_of_nonneg q0] at e
          exact e
        refine use_ixL (SqL.of h2) hix ?_
        refine rd_gname ?_
        exact fin _ _ ⟨z, rfl, rfl⟩
theorem ok_l_pen (T : Txt K mg) (D : DefAt K mg "_law_pen" s_l_pen ["_law_script"]) : Cal P w K mg base 1 "_law_pen" (spPen K) := by
  obtain ⟨f, fd, hm, F, b⟩ := D
  refine ⟨f, fnR0 F b sc_l_pen (fun vs H Q E h => ?_) (fun cdv A outer s H vs Q E hr h => ?_), hm, F.kp⟩
  · obtain ⟨a, ns, rfl, hS, hl, k⟩ := h
    rfl
  · obtain ⟨a, ns, rfl, hS, hl, k⟩ := h
    have hu := hu_of hr
    refine ⟨_, (pss_one (ps_ret (pe_lst (pa_cons (pe_callTy call_list_of (by rfl) T.b_list (by decide +kernel) (pa_cons (pe_slice sl_list (pv 0) po_none (po_some pe_int)) pa_nil)) (pa_cons pe_int (pa_cons pe_int pa_nil)))))), ?_⟩
    try dsimp only [cxOf, Cx.nox, Cx.wish, List.map]
    obtain ⟨ms, hcut, hml⟩ := cut63 ns hl
    refine ⟨_, rfl, 63, rfl, a, _, rfl, hS, fun l hln => ?_⟩
    rw [hcut]
    have s1 := Same.new (o := .lst (ms.map V.int)) hln
    have e1 := upd_same (H := H) (a := l) (o := .lst (ms.map V.int))
    generalize upd H l _ = H1 at *
    refine ⟨l, _, rfl, .inl (SqL.of e1), fun c hc => ?_⟩
    have s2 := Same.new (o := .lst (ms.map V.int)) hc
    have e2 := upd_same (H := H1) (a := c) (o := .lst (ms.map V.int))
    generalize upd H1 c _ = H2 at *
    walk_at "rd"
    refine new_lst (by show 3 ≤ 1000; decide) fun b H3 n3 e3 s3 => ?_
    exact k b c H3 ⟨ms, 0, 0, e3, s3 _ _ e2, by decide, by decide, by decide⟩ ((s1.trans s2).trans s3)
theorem ok_l_pick (T : Txt K mg) (c_l_draw : Cal P w K mg base 1 "_law_draw" spPDraw) (D : DefAt K mg "_law_pick" s_l_pick ["_law_pen_here", "_law_some"]) : Cal P w K mg base 2 "_law_pick" spPick := by
  obtain ⟨f, fd, hm, F, b⟩ := D
  refine ⟨f, fnR0 F b sc_l_pick (fun vs H Q E h => ?_) (fun cdv A outer s H vs Q E hr h => ?_), hm, F.kp⟩
  · obtain ⟨b, c, l, kk, xs, rfl, P, hl, nl, x0, xn, k⟩ := h
    rfl
  · obtain ⟨b, c, l, kk, xs, rfl, P, hl, nl, x0, xn, k⟩ := h
    have hu := hu_of hr
    refine ⟨_, (pss_one (ps_ret (pe_ix ix_list (pv 1) (pe_cl c_l_draw hr passL (pa_cons (pv 0) (pa_cons (pe_callB call_len_seq (by rfl) T.b_len (by decide +kernel) (pa_cons (pv 1) pa_nil)) pa_nil))) (fun _ _ => rfl)))), ?_⟩
    try dsimp only [cxOf, Cx.nox, Cx.wish, List.map]
    walk_at "rd"
    refine ⟨l, _, rfl, .inl (SqL.of hl), ?_⟩
    walk_at "rd"
    refine use_pd P (by omega) (by have : (10 : Int) ^ 40 = 10000000000000000000000000000000000000000 := by decide
                                   omega) fun i H1 i0 i1 P1 k1 => ?_
    obtain ⟨z, hz⟩ : ∃ z, xs[i.toNat]? = some z := ⟨xs[i.toNat]'(by omega), List.getElem?_eq_getElem (by omega)⟩
    have hix : atI xs i = some z := by
      have e := atI_nat (xs := xs) (j := i.toNat) (v := z) hz
      rw [Int.toNat_of_nonneg i0] at e
      exact e
    refine use_ixL (SqL.of (k1 _ _ hl nl)) hix ?_
    exact k i.toNat z H1 hz P1 k1
end
open PySem PySem.Spec PyProof.Rows L2 Hf
section
variable {P : Program} {w : World} {K : PySem.W.Frag} {mg : Str → Option Value} {base : Heap}
theorem ok_is_whole (T : Txt K mg) (D : DefAt K mg "is_whole" s_is_whole ["value"]) : Cal P w K mg base 1 "is_whole" (spWhole K) := by
  obtain ⟨f, fd, hm, F, b⟩ := D
  refine ⟨f, fnR0 F b sc_is_whole (fun vs H Q E h => ?_) (fun cdv A outer s H vs Q E hr h => ?_), hm, F.kp⟩
  · obtain ⟨v, t, b1, b2, rfl, ty, h1, h2, k⟩ := h
    rfl
  · obtain ⟨v, t, b1, b2, rfl, ty, h1, h2, k⟩ := h
    have hu := hu_of hr
    refine ⟨_, (pss_one (ps_ret (pe_and (pe_callB call_isi (by rfl) T.b_isinstance (by decide +kernel) (pa_cons (pv 0) (pa_cons (pe_tInt T.b_int) pa_nil))) (pe_one (pe_not (pe_callB call_isi (by rfl) T.b_isinstance (by decide +kernel) (pa_cons (pv 0) (pa_cons (pe_tBool T.b_bool) pa_nil)))))))), ?_⟩
    try dsimp only [cxOf, Cx.nox, Cx.wish, List.map]
    refine ⟨_, rfl, _, _, t, _, b1, rfl, .ty "int", ty, h1, b1, rfl, ?_⟩
    cases b1 with
    | false => exact iteF k
    | true => exact iteT ⟨_, rfl, _, _, t, _, b2, rfl, .ty "bool", ty, h2, b2, rfl, k⟩
theorem ok_value_at (T : Txt K mg) (D : DefAt K mg "value_at" s_value_at ["slope", "offset", "odd", "size"]) : Cal P w K mg base 1 "value_at" spVal := by
  obtain ⟨f, fd, hm, F, b⟩ := D
  refine ⟨f, fnR0 F b sc_value_at (fun vs H Q E h => ?_) (fun cdv A outer s H vs Q E hr h => ?_), hm, F.kp⟩
  · obtain ⟨s, o, d, n, rfl, hs, hd, hn, k⟩ := h
    rfl
  · obtain ⟨s, o, d, n, rfl, hs, hd, hn, k⟩ := h
    have hu := hu_of hr
    refine ⟨_, (pss_one (ps_ret (pe_op op_add (pe_op op_add (pe_op op_mulW (pv 0) (pe_op op_fdivW (pv 3) pe_int)) (pv 1)) (pe_op op_mulW (pv 2) (pe_op op_mod (pv 3) pe_int))))), ?_⟩
    try dsimp only [cxOf, Cx.nox, Cx.wish, List.map]
    have h2 : Sm (n / 2) := ⟨by have := hn.1; omega, by have := hn.2; omega⟩
    have h3 : Sm (n % 2) := ⟨by omega, by omega⟩
    exact ⟨_, rfl, _, rfl, _, _, rfl, rfl, ⟨by decide, by decide⟩, _, _, rfl, rfl, hs.mul h2, _, rfl, _, _, rfl, rfl, _, rfl, _, rfl, _, _, rfl, rfl, (by show (0 : Int) < 2; decide), _, _, rfl, rfl, hd.mul h3, _, _, rfl, rfl, k⟩
theorem ok_BadPlace_init {f C cc cda : Addr} {dV kV doc pm ct oc : Value} {an od : Option Addr} {osl : Array (Option Value)} (lk : K.lookup f = some ⟨oc, od, .func (PySem.W.ksFn "__init__" "BadPlace.__init__" (defArgs s_BadPlace_init) (defBody s_BadPlace_init) (defScope s_BadPlace_init) dV kV doc pm an (.ref cda) ct cc), osl⟩) (hcd : PySem.W.codeIn K (.ref cda) "BadPlace.__init__" = true)
    (T : OexC K C) (U : SupC P K mg C cc cda) (hno0 : PySem.W.findIn K (.ref C) "part" = some none) : FnOk P w K mg base (L2.CX P w) 1 f (PySem.W.ksFn "__init__" "BadPlace.__init__" (defArgs s_BadPlace_init) (defBody s_BadPlace_init) (defScope s_BadPlace_init) dV kV doc pm an (.ref cda) ct cc) ["self", "part"] (spErr C ["part"]) :=
  ok_err1 (P := P) (w := w) (mg := mg) (base := base) lk hcd (NdefX.nscope_by (by decide +kernel)) rfl rfl rfl T U (fun _ => rfl) hno0 (by decide) (by decide) (fun _ => rfl)
theorem ok_BadSize_init {f C cc cda : Addr} {dV kV doc pm ct oc : Value} {an od : Option Addr} {osl : Array (Option Value)} (lk : K.lookup f = some ⟨oc, od, .func (PySem.W.ksFn "__init__" "BadSize.__init__" (defArgs s_BadSize_init) (defBody s_BadSize_init) (defScope s_BadSize_init) dV kV doc pm an (.ref cda) ct cc), osl⟩) (hcd : PySem.W.codeIn K (.ref cda) "BadSize.__init__" = true)
    (T : OexC K C) (U : SupC P K mg C cc cda) (hno0 : PySem.W.findIn K (.ref C) "part" = some none) : FnOk P w K mg base (L2.CX P w) 1 f (PySem.W.ksFn "__init__" "BadSize.__init__" (defArgs s_BadSize_init) (defBody s_BadSize_init) (defScope s_BadSize_init) dV kV doc pm an (.ref cda) ct cc) ["self", "part"] (spErr C ["part"]) :=
  ok_err1 (P := P) (w := w) (mg := mg) (base := base) lk hcd (NdefX.nscope_by (by decide +kernel)) rfl rfl rfl T U (fun _ => rfl) hno0 (by decide) (by decide) (fun _ => rfl)
theorem ok_BadColour_init {f C cc cda : Addr} {dV kV doc pm ct oc : Value} {an od : Option Addr} {osl : Array (Option Value)} (lk : K.lookup f = some ⟨oc, od, .func (PySem.W.ksFn "__init__" "BadColour.__init__" (defArgs s_BadColour_init) (defBody s_BadColour_init) (defScope s_BadColour_init) dV kV doc pm an (.ref cda) ct cc), osl⟩) (hcd : PySem.W.codeIn K (.ref cda) "BadColour.__init__" = true)
    (T : OexC K C) (U : SupC P K mg C cc cda) (hno0 : PySem.W.findIn K (.ref C) "value" = some none) : FnOk P w K mg base (L2.CX P w) 1 f (PySem.W.ksFn "__init__" "BadColour.__init__" (defArgs s_BadColour_init) (defBody s_BadColour_init) (defScope s_BadColour_init) dV kV doc pm an (.ref cda) ct cc) ["self", "value"] (spErr C ["value"]) :=
  ok_err1 (P := P) (w := w) (mg := mg) (base := base) lk hcd (NdefX.nscope_by (by decide +kernel)) rfl rfl rfl T U (fun _ => rfl) hno0 (by decide) (by decide) (fun _ => rfl)
theorem ok_BadPixel_init {f C cc cda : Addr} {dV kV doc pm ct oc : Value} {an od : Option Addr} {osl : Array (Option Value)} (lk : K.lookup f = some ⟨oc, od, .func (PySem.W.ksFn "__init__" "BadPixel.__init__" (defArgs s_BadPixel_init) (defBody s_BadPixel_init) (defScope s_BadPixel_init) dV kV doc pm an (.ref cda) ct cc), osl⟩) (hcd : PySem.W.codeIn K (.ref cda) "BadPixel.__init__" = true)
    (T : OexC K C) (U : SupC P K mg C cc cda) (hno0 : PySem.W.findIn K (.ref C) "x" = some none) (hno1 : PySem.W.findIn K (.ref C) "y" = some none) : FnOk P w K mg base (L2.CX P w) 1 f (PySem.W.ksFn "__init__" "BadPixel.__init__" (defArgs s_BadPixel_init) (defBody s_BadPixel_init) (defScope s_BadPixel_init) dV kV doc pm an (.ref cda) ct cc) ["self", "x", "y"] (spErr C ["x", "y"]) :=
  ok_err2 (P := P) (w := w) (mg := mg) (base := base) lk hcd (NdefX.nscope_by (by decide +kernel)) rfl rfl rfl T U (fun _ => rfl) hno0 hno1 (by decide) (by decide) (by decide) (by decide) (fun _ => rfl) (fun _ => rfl)
end
open PySem PySem.Spec PyProof.Rows L2 Hf
section
variable {P : Program} {w : World} {K : PySem.W.Frag} {mg : Str → Option Value} {base : Heap}
theorem ok_Place_initX {C CB : Addr} (T : Txt K mg) (C0 : PlC K mg C) (c_is_whole : Cal P w K mg base 1 "is_whole" (spWhole K)) (Er_BadPlace : Err P w K mg base "BadPlace" CB ["part"]) {f : Addr} {fd : FuncData} {dvs : List V} {kws : List (Str × V)} (F : FunD K "__init__" "Place.__init__" (defArgs s_Place_init) (defBody s_Place_init) (defScope s_Place_init) dvs kws f fd) {ps : List Str} (hps : ps = (["self", "slope", "offset", "odd"] : List Str)) : FnOk P w K mg base (L2.CX P w) 3 f fd ps (spPlX K C CB) := by
  subst hps
  refine fnOkDX F sc_Place_init (fun vs H Q E h => ?_) (fun cdv A outer s H vs Q E hr tk h => ?_)
  · obtain ⟨p, dx, v1, v2, v3, rfl, _⟩ := h
    rfl
  · obtain ⟨p, dx, v1, v2, v3, rfl, hp, h⟩ := h
    refine ⟨_, (pss_cons (ps_for (passes_of rfl) rfl (pi_tup (pe_tup (pa_cons (pe_tup (pa_cons pe_str (pa_cons (pv 1) pa_nil))) (pa_cons (pe_tup (pa_cons pe_str (pa_cons (pv 2) pa_nil))) (pa_cons (pe_tup (pa_cons pe_str (pa_cons (pv 3) pa_nil))) pa_nil))))) (pg_tup rfl (pgs_cons (pg_name (i := 4) sc_Place_init.nd rfl (Or.inl rfl)) (pgs_cons (pg_name (i := 5) sc_Place_init.nd rfl (Or.inl rfl)) pgs_nil)))
  (pss_one (ps_if (pt_not (pt_val (pe_cl c_is_whole hr passL (pa_cons (pv 5) pa_nil)))) (pss_one (ps_raE rfl tk (pmk_err Er_BadPlace hr (pa_cons (pv 4) pa_nil)))) pss_nil)))
  (pss_cons (ps_fld (pv 0) (pv 1) rfl)
  (pss_cons (ps_fld (pv 0) (pv 2) rfl)
  (pss_one (ps_fld (pv 0) (pv 3) rfl))))), ?_⟩
    try dsimp only [cxOf, Cx.nox, Cx.wish, List.map]
    walk_at "rd"
    refine new_tup (by show 2 ≤ 1000; decide) fun t1 H1 n1 e1 s1 => ?_
    walk_at "rd"
    refine new_tup (by show 2 ≤ 1000; decide) fun t2 H2 n2 e2 s2 => ?_
    walk_at "rd"
    refine new_tup (by show 2 ≤ 1000; decide) fun t3 H3 n3 e3 s3 => ?_
    walk_at "rd"
    refine new_tup (by show 3 ≤ 1000; decide) fun t4 H4 n4 e4 s4 => ?_
    have e1 := s4 _ _ (s3 _ _ (s2 _ _ e1))
    have e2 := s4 _ _ (s3 _ _ e2)
    have e3 := s4 _ _ e3
    have sm := ((s1.trans s2).trans s3).trans s4
    have ep := sm _ _ hp
    refine ⟨t4, rfl, ⟨_, SqT.of e4⟩, ?_⟩
    rcases h with ⟨h1, kE⟩ | ⟨s, rfl, ⟨h2, kE⟩ | ⟨o, rfl, ⟨h3, kE⟩ | ⟨d, rfl, k⟩⟩⟩
    · refine for_tup (K := K) (a := t4) (xs := [.ref t1, .ref t2, .ref t3]) (fun i σ H' => i ≤ 0 ∧ ∃ (v4 v5 : Option V), σ = [some (.ref p), some v1, some v2, some v3, v4, v5] ∧ H' = H4)
        ⟨by omega, none, none, rfl, rfl⟩ (fun i σ H' _ ⟨_, _, _, _, e⟩ => by rw [e]; exact SqT.of e4) ?_ ?_
      · rintro i y σ H' hi ⟨hm, v4, v5, rfl, rfl⟩
        match i, hi with
        | 0, hi =>
          cases hi
          refine rd_gtup (SqT.of e1) rfl ?_
          walk_at "rd"
          refine wh_not (h1.same sm) ?_
          walk_at "rd"
          refine iteT ?_
          walk_at "rd"
          exact use_err rfl (by decide) fun d hd => kE d _ upd_same (sm.trans (Same.new hd))
        | 1, hi =>
          exact absurd hm (by omega)
        | 2, hi =>
          exact absurd hm (by omega)
        | i + 3, hi => simp at hi
      · rintro σ H' ⟨hm, v4, v5, rfl, rfl⟩
        exact absurd (show 3 ≤ _ from hm) (by decide)
    · refine for_tup (K := K) (a := t4) (xs := [.ref t1, .ref t2, .ref t3]) (fun i σ H' => i ≤ 1 ∧ ∃ (v4 v5 : Option V), σ = [some (.ref p), some (.int s), some v2, some v3, v4, v5] ∧ H' = H4)
        ⟨by omega, none, none, rfl, rfl⟩ (fun i σ H' _ ⟨_, _, _, _, e⟩ => by rw [e]; exact SqT.of e4) ?_ ?_
      · rintro i y σ H' hi ⟨hm, v4, v5, rfl, rfl⟩
        match i, hi with
        | 0, hi =>
          cases hi
          refine rd_gtup (SqT.of e1) rfl ?_
          walk_at "rd"
          refine wh_int ?_
          walk_at "rd"
          exact iteF ⟨by omega, _, _, rfl, rfl⟩
        | 1, hi =>
          cases hi
          refine rd_gtup (SqT.of e2) rfl ?_
          walk_at "rd"
          refine wh_not (h2.same sm) ?_
          walk_at "rd"
          refine iteT ?_
          walk_at "rd"
          exact use_err rfl (by decide) fun d hd => kE d _ upd_same (sm.trans (Same.new hd))
        | 2, hi =>
          exact absurd hm (by omega)
        | i + 3, hi => simp at hi
      · rintro σ H' ⟨hm, v4, v5, rfl, rfl⟩
        exact absurd (show 3 ≤ _ from hm) (by decide)
    · refine for_tup (K := K) (a := t4) (xs := [.ref t1, .ref t2, .ref t3]) (fun i σ H' => i ≤ 2 ∧ ∃ (v4 v5 : Option V), σ = [some (.ref p), some (.int s), some (.int o), some v3, v4, v5] ∧ H' = H4)
        ⟨by omega, none, none, rfl, rfl⟩ (fun i σ H' _ ⟨_, _, _, _, e⟩ => by rw [e]; exact SqT.of e4) ?_ ?_
      · rintro i y σ H' hi ⟨hm, v4, v5, rfl, rfl⟩
        match i, hi with
        | 0, hi =>
          cases hi
          refine rd_gtup (SqT.of e1) rfl ?_
          walk_at "rd"
          refine wh_int ?_
          walk_at "rd"
          exact iteF ⟨by omega, _, _, rfl, rfl⟩
        | 1, hi =>
          cases hi
          refine rd_gtup (SqT.of e2) rfl ?_
          walk_at "rd"
          refine wh_int ?_
          walk_at "rd"
          exact iteF ⟨by omega, _, _, rfl, rfl⟩
        | 2, hi =>
          cases hi
          refine rd_gtup (SqT.of e3) rfl ?_
          walk_at "rd"
          refine wh_not (h3.same sm) ?_
          walk_at "rd"
          refine iteT ?_
          walk_at "rd"
          exact use_err rfl (by decide) fun d hd => kE d _ upd_same (sm.trans (Same.new hd))
        | i + 3, hi => simp at hi
      · rintro σ H' ⟨hm, v4, v5, rfl, rfl⟩
        exact absurd (show 3 ≤ _ from hm) (by decide)
    · refine for_tup (K := K) (a := t4) (xs := [.ref t1, .ref t2, .ref t3]) (fun i σ H' => i ≤ 3 ∧ ∃ (v4 v5 : Option V), σ = [some (.ref p), some (.int s), some (.int o), some (.int d), v4, v5] ∧ H' = H4)
        ⟨by omega, none, none, rfl, rfl⟩ (fun i σ H' _ ⟨_, _, _, _, e⟩ => by rw [e]; exact SqT.of e4) ?_ ?_
      · rintro i y σ H' hi ⟨hm, v4, v5, rfl, rfl⟩
        match i, hi with
        | 0, hi =>
          cases hi
          refine rd_gtup (SqT.of e1) rfl ?_
          walk_at "rd"
          refine wh_int ?_
          walk_at "rd"
          exact iteF ⟨by omega, _, _, rfl, rfl⟩
        | 1, hi =>
          cases hi
          refine rd_gtup (SqT.of e2) rfl ?_
          walk_at "rd"
          refine wh_int ?_
          walk_at "rd"
          exact iteF ⟨by omega, _, _, rfl, rfl⟩
        | 2, hi =>
          cases hi
          refine rd_gtup (SqT.of e3) rfl ?_
          walk_at "rd"
          refine wh_int ?_
          walk_at "rd"
          exact iteF ⟨by omega, _, _, rfl, rfl⟩
        | i + 3, hi => simp at hi
      · rintro σ H' ⟨hm, v4, v5, rfl, rfl⟩
        refine ⟨_, rfl, _, rfl, p, C, dx, [], rfl, ep, C0.cl, C0.n1, (by show 0 < 1000; decide), ?_⟩
        refine ⟨_, rfl, _, rfl, p, C, dx, _, rfl, upd_same, C0.cl, C0.n2, (by show 1 < 1000; decide), ?_⟩
        refine ⟨_, rfl, _, rfl, p, C, dx, _, rfl, upd_same, C0.cl, C0.n3, ?_, ?_⟩
        · rw [pf_nil, pf_miss f_so, pf_nil]
          show 2 < 1000
          decide
        · refine k _ (Eq.trans upd_same (congrArg (fun l => some (HO.ins C dx l)) pl_make)) fun b u e n => ?_
          rw [upd_ne n, upd_ne n, upd_ne n]
          exact sm b u e
theorem ok_Place_callX {C CS : Addr} (T : Txt K mg) (C0 : PlC K mg C) (c_is_whole : Cal P w K mg base 1 "is_whole" (spWhole K)) (c_value_at : Cal P w K mg base 1 "value_at" spVal) (Er_BadSize : Err P w K mg base "BadSize" CS ["part"]) {f : Addr} {fd : FuncData} (F : Fun K "__call__" "Place.__call__" s_Place_call f fd) : FnOk P w K mg base (L2.CX P w) 3 f fd ["self", "size"] (spPlAtX K C CS) := by
  refine F.okX (P := P) (w := w) (mg := mg) (base := base) sc_Place_call (fun vs H Q E h => ?_) (fun cdv A outer s H vs Q E hr h => ?_)
  · obtain ⟨p, s, o, d, v, rfl, _⟩ := h
    rfl
  · have tk : Takes (cxOf (L2.CX P w) P w K mg base ["self", "size"] "Place.__call__" (defScope s_Place_call) f cdv A outer s H E) (fun cls d _ H => E cls d H) := takes_of rfl rfl rfl rfl
    obtain ⟨p, s, o, d, v, rfl, ⟨dx, hp⟩, h⟩ := h
    have hu := hu_of hr
    refine ⟨_, (pss_cons (ps_if (pw_or (pt_not (pt_val (pe_cl c_is_whole hr passL (pa_cons (pv 1) pa_nil)))) (pw_or1 (pt_cmpR op_lt (pv 1) pe_int (nomark _)))).pt (pss_one (ps_raE rfl tk (pmk_err Er_BadSize hr (pa_cons pe_str pa_nil)))) pss_nil)
  (pss_one (ps_ret (pe_cl c_value_at hr passL (pa_cons (pe_fld (pv 0) rfl) (pa_cons (pe_fld (pv 0) rfl) (pa_cons (pe_fld (pv 0) rfl) (pa_cons (pv 1) pa_nil)))))))), ?_⟩
    try dsimp only [cxOf, Cx.nox, Cx.wish, List.map]
    walk_at "rd"
    rcases h with ⟨hl, kE⟩ | ⟨n, rfl, h1, hs, hd, hn, k⟩
    · rcases hl with hl | ⟨i, rfl, hi1⟩
      · refine wh_not hl ?_
        walk_at "rd"
        refine iteT ?_
        refine iteT ?_
        walk_at "rd"
        exact use_err rfl (by decide) fun d hd => kE d _ upd_same (Same.new hd)
      · refine wh_int ?_
        walk_at "rd"
        refine iteF ?_
        walk_at "rd"
        refine ite_yes (decide_eq_true hi1) ?_
        walk_at "rd"
        exact use_err rfl (by decide) fun d hd => kE d _ upd_same (Same.new hd)
    · refine wh_int ?_
      walk_at "rd"
      refine iteF ?_
      walk_at "rd"
      refine ite_no (decide_eq_false (by omega)) ?_
      walk_at "pl"
      exact ⟨_, _, _, _, rfl, hs, hd, hn, k⟩
end
open PySem PySem.Spec PyProof.Rows L2 Hf
section
variable {P : Program} {w : World} {K : PySem.W.Frag} {mg : Str → Option Value} {base : Heap}
theorem ok_as_place {C CB : Addr} (T : Txt K mg) (C0 : PlC K mg C) (c_is_whole : Cal P w K mg base 1 "is_whole" (spWhole K)) (M_Place : Mak P w K mg base 3 "Place" C (spPlX K C CB)) (mp : ∃ t, mg "MOST_PART" = some (.int 1000000000000 t)) (D : DefAt K mg "as_place" s_as_place ["value"]) : Cal P w K mg base 5 "as_place" (spAsP K C) := by
  obtain ⟨f, fd, hm, F, b⟩ := D
  refine ⟨f, fnR0 F b sc_as_place (fun vs H Q E h => ?_) (fun cdv A outer s H vs Q E hr h => ?_), hm, F.kp⟩
  · obtain ⟨v, rfl, h⟩ := h
    rfl
  · obtain ⟨v, rfl, h⟩ := h
    have hu := hu_of hr
    refine ⟨_, (pss_cons (ps_set (i := 1) sc_as_place.nd rfl (Or.inl rfl) (pe_ifExp (pt_val (pe_cl c_is_whole hr passL (pa_cons (pv 0) pa_nil))) (pe_ma M_Place hr passL (pa_cons pe_int (pa_cons (pv 0) (pa_cons pe_int pa_nil)))) (pv 0)))
  (pss_cons (ps_if (pt_not (pt_val (pe_callB call_isi (by rfl) T.b_isinstance (by decide +kernel) (pa_cons (pv 1) (pa_cons (pe_glob (v := .ref C) (by rfl) C0.g rfl) pa_nil))))) (pss_one (ps_ret pe_non)) pss_nil)
  (pss_cons (ps_set (i := 2) sc_as_place.nd rfl (Or.inl rfl) (pe_tup (pa_cons (pe_fld (pv 1) rfl) (pa_cons (pe_fld (pv 1) rfl) (pa_cons (pe_fld (pv 1) rfl) pa_nil)))))
  (pss_one (ps_ret (pe_ifExp (pt_val (pe_callB (cr_all rfl) (by rfl) T.b_all (by decide +kernel) (pa_cons (pe_lc (own := [("part", 3)]) (by rfl) sc_as_place.nd (pi_tup (pv 2)) (blkOk_by (own := [("part", 3)]) (N := ["value", "found", "parts", "part"]) (sc := defScope s_as_place) (by decide +kernel)) (fun _ _ _ _ _ => (pg_name (i := 3) sc_as_place.nd rfl (Or.inl rfl))) (fun _ _ _ _ _ => pts_nil) (fun _ _ _ _ _ => (pe_chain op_le op_le (pe_op op_sub pe_int (pe_globI mp)) (pv 3) (pe_globI mp)))) pa_nil))) (pv 1) pe_non)))))), ?_⟩
    try dsimp only [cxOf, Cx.nox, Cx.wish, List.map]
    rcases h with ⟨⟨nw, t, ty, kk⟩, k⟩ | ⟨s, o, d, hv, k1, k2⟩
    · walk_at "rd"
      refine wh_not nw ?_
      walk_at "rd"
      refine iteF ?_
      walk_at "rd"
      refine rd_isi (.own C) ty kk ?_
      walk_at "rd"
      refine iteT ?_
      walk_at "rd"
      exact k _ (Same.refl _)
    · rcases hv with ⟨rfl, hs, hd⟩ | ⟨p, rfl, nw, g1⟩
      · walk_at "rd"
        refine wh_int ?_
        walk_at "rd"
        refine iteT ?_
        walk_at "rd"
        refine use_plX fun p H1 n1 g1 s1 => ?_
        replace g1 : PlaceAt C H1 p s o d := by rw [hs, hd]; exact g1
        refine rd_gname ?_
        obtain ⟨dx, hp⟩ := id g1
        walk_at "rd"
        refine rd_isi (.own C) (C0.ty hp) kit_self ?_
        walk_at "rd"
        refine iteF ?_
        walk_at "rd"
        refine rd_fldK hp C0.cl C0.n1 pl_slope ?_
        walk_at "rd"
        refine rd_fldK hp C0.cl C0.n2 pl_offset ?_
        walk_at "rd"
        refine rd_fldK hp C0.cl C0.n3 pl_odd ?_
        walk_at "rd"
        refine new_tup (by show 3 ≤ 1000; decide) fun t H2 n2 e2 s2 => ?_
        refine rd_gname ?_
        walk_at "rd"
        refine ⟨t, rfl, ⟨_, SqT.of e2⟩, ?_⟩
        refine lc_mapW (walk_tup (a := t) (xs := [V.int s, .int o, .int d])) (fun j => .bl (bdI ([s, o, d].getD j 0))) (fun H' sm => SqT.of (sm _ _ e2)) (by show 3 ≤ 1000; decide) (fun j x A1 A2 R hj u1 yy kk => ?_) fun D H3 n3 e3 s3 => ?_
        · obtain ⟨rfl, ex⟩ := yy
          obtain ⟨z, hz, rfl⟩ : ∃ z : Int, [s, o, d].getD j 0 = z ∧ x = V.int z := by
            match j, ex with
            | 0, ex => cases ex; exact ⟨_, rfl, rfl⟩
            | 1, ex => cases ex; exact ⟨_, rfl, rfl⟩
            | 2, ex => cases ex; exact ⟨_, rfl, rfl⟩
            | j + 3, ex => simp at ex
          rw [hz] at kk
          have kk := kk _ (Same.refl _)
          unfold bdI at kk
          refine rd_gname ?_
          refine ⟨wipe1, ?_⟩
          walk_at "rd"
          refine ch_bl (fun c1 => ?_) (fun c1 => ?_)
          · rw [show decide (-1000000000000 ≤ z) = true from c1, Bool.true_and] at kk
            walk_at "rd"
            exact kk
          · rw [show decide (-1000000000000 ≤ z) = false from c1, Bool.false_and] at kk
            exact kk
        walk_at "rd"
        refine ⟨D, [bdI s, bdI o, bdI d], rfl, SqL.of e3, ?_⟩
        have eb : ([bdI s, bdI o, bdI d].all fun x => x) = bd3 s o d := by simp only [List.all_cons, List.all_nil, Bool.and_true, bd3]
        have SS := s1.trans (s2.trans s3)
        have g3 := (g1.same s2).same s3
        show ∃ k, V.bl ([bdI s, bdI o, bdI d].all fun x => x) = V.bl k ∧ _
        rw [eb]
        cases hb : bd3 s o d with
        | false =>
          refine ⟨_, rfl, iteF ?_⟩
          walk_at "rd"
          exact k1 hb _ SS
        | true =>
          refine ⟨_, rfl, iteT ?_⟩
          walk_at "rd"
          exact k2 hb _ _ g3 SS
      · walk_at "rd"
        refine wh_not nw ?_
        walk_at "rd"
        refine iteF ?_
        have s1 := Same.refl H
        obtain ⟨dx, hp⟩ := id g1
        walk_at "rd"
        refine rd_isi (.own C) (C0.ty hp) kit_self ?_
        walk_at "rd"
        refine iteF ?_
        walk_at "rd"
        refine rd_fldK hp C0.cl C0.n1 pl_slope ?_
        walk_at "rd"
        refine rd_fldK hp C0.cl C0.n2 pl_offset ?_
        walk_at "rd"
        refine rd_fldK hp C0.cl C0.n3 pl_odd ?_
        walk_at "rd"
        refine new_tup (by show 3 ≤ 1000; decide) fun t H2 n2 e2 s2 => ?_
        refine rd_gname ?_
        walk_at "rd"
        refine ⟨t, rfl, ⟨_, SqT.of e2⟩, ?_⟩
        refine lc_mapW (walk_tup (a := t) (xs := [V.int s, .int o, .int d])) (fun j => .bl (bdI ([s, o, d].getD j 0))) (fun H' sm => SqT.of (sm _ _ e2)) (by show 3 ≤ 1000; decide) (fun j x A1 A2 R hj u1 yy kk => ?_) fun D H3 n3 e3 s3 => ?_
        · obtain ⟨rfl, ex⟩ := yy
          obtain ⟨z, hz, rfl⟩ : ∃ z : Int, [s, o, d].getD j 0 = z ∧ x = V.int z := by
            match j, ex with
            | 0, ex => cases ex; exact ⟨_, rfl, rfl⟩
            | 1, ex => cases ex; exact ⟨_, rfl, rfl⟩
            | 2, ex => cases ex; exact ⟨_, rfl, rfl⟩
            | j + 3, ex => simp at ex
          rw [hz] at kk
          have kk := kk _ (Same.refl _)
          unfold bdI at kk
          refine rd_gname ?_
          refine ⟨wipe1, ?_⟩
          walk_at "rd"
          refine ch_bl (fun c1 => ?_) (fun c1 => ?_)
          · rw [show decide (-1000000000000 ≤ z) = true from c1, Bool.true_and] at kk
            walk_at "rd"
            exact kk
          · rw [show decide (-1000000000000 ≤ z) = false from c1, Bool.false_and] at kk
            exact kk
        walk_at "rd"
        refine ⟨D, [bdI s, bdI o, bdI d], rfl, SqL.of e3, ?_⟩
        have eb : ([bdI s, bdI o, bdI d].all fun x => x) = bd3 s o d := by simp only [List.all_cons, List.all_nil, Bool.and_true, bd3]
        have SS := s1.trans (s2.trans s3)
        have g3 := (g1.same s2).same s3
        show ∃ k, V.bl ([bdI s, bdI o, bdI d].all fun x => x) = V.bl k ∧ _
        rw [eb]
        cases hb : bd3 s o d with
        | false =>
          refine ⟨_, rfl, iteF ?_⟩
          walk_at "rd"
          exact k1 hb _ SS
        | true =>
          refine ⟨_, rfl, iteT ?_⟩
          walk_at "rd"
          exact k2 hb _ _ g3 SS
theorem ok_need_place {C CB : Addr} (T : Txt K mg) (c_as_place : Cal P w K mg base 5 "as_place" (spAsP K C)) (Er_BadPlace : Err P w K mg base "BadPlace" CB ["part"]) (D : DefAt K mg "need_place" s_need_place ["value", "part"]) : Cal P w K mg base 6 "need_place" (spNeedP K C CB) := by
  obtain ⟨f, fd, hm, F, b⟩ := D
  refine ⟨f, fnRX F b sc_need_place (fun vs H Q E h => ?_) (fun cdv A outer s H vs Q E hr tk h => ?_), hm, F.kp⟩
  · obtain ⟨v, x, rfl, h⟩ := h
    rfl
  · obtain ⟨v, x, rfl, h⟩ := h
    have hu := hu_of hr
    refine ⟨_, (pss_cons (ps_set (i := 2) sc_need_place.nd rfl (Or.inl rfl) (pe_cl c_as_place hr passL (pa_cons (pv 0) pa_nil)))
  (pss_cons (ps_if (pt_cmpR op_isN (pv 2) pe_non (nomark _)) (pss_one (ps_raE rfl tk (pmk_err Er_BadPlace hr (pa_cons (pv 1) pa_nil)))) pss_nil)
  (pss_one (ps_ret (pv 2))))), ?_⟩
    try dsimp only [cxOf, Cx.nox, Cx.wish, List.map]
    walk_at "rd"
    refine ⟨v, rfl, ?_⟩
    rcases h with ⟨hb, kE⟩ | ⟨s, o, d, hv, hb, k⟩
    · rcases hb with hb | ⟨s, o, d, hv, hb⟩
      · refine .inl ⟨hb, fun H1 s1 => ?_⟩
        refine rd_gname ?_
        walk_at "rd"
        refine ⟨rfl, ?_⟩
        rw [decide_eq_true (show V.non = V.non from rfl)]
        walk_at "rd"
        refine iteT ?_
        walk_at "rd"
        replace kE := kE.same s1
        exact use_err rfl (by decide) fun d hd => kE d _ upd_same (Same.new hd)
      · refine .inr ⟨s, o, d, hv, fun _ H1 s1 => ?_, fun z => by rw [hb] at z; cases z⟩
        refine rd_gname ?_
        walk_at "rd"
        refine ⟨rfl, ?_⟩
        rw [decide_eq_true (show V.non = V.non from rfl)]
        walk_at "rd"
        refine iteT ?_
        walk_at "rd"
        replace kE := kE.same s1
        exact use_err rfl (by decide) fun d hd => kE d _ upd_same (Same.new hd)
    · refine .inr ⟨s, o, d, hv, (fun z => by rw [hb] at z; cases z), fun _ p H1 g1 s1 => ?_⟩
      refine rd_gname ?_
      walk_at "rd"
      refine ⟨rfl, ?_⟩
      rw [decide_eq_false (show ¬ V.ref p = V.non from fun z => by cases z)]
      walk_at "rd"
      refine iteF ?_
      walk_at "rd"
      exact k p H1 g1 s1
theorem ok_need_length {CS : Addr} (T : Txt K mg) (c_is_whole : Cal P w K mg base 1 "is_whole" (spWhole K)) (Er_BadSize : Err P w K mg base "BadSize" CS ["part"]) (D : DefAt K mg "need_length" s_need_length ["value", "part"]) : Cal P w K mg base 3 "need_length" (spNeedL K CS) := by
  obtain ⟨f, fd, hm, F, b⟩ := D
  refine ⟨f, fnRX F b sc_need_length (fun vs H Q E h => ?_) (fun cdv A outer s H vs Q E hr tk h => ?_), hm, F.kp⟩
  · obtain ⟨v, x, rfl, h⟩ := h
    rfl
  · obtain ⟨v, x, rfl, h⟩ := h
    have hu := hu_of hr
    refine ⟨_, (pss_one (ps_if (pw_or (pt_not (pt_val (pe_cl c_is_whole hr passL (pa_cons (pv 0) pa_nil)))) (pw_or1 (pt_cmpR op_lt (pv 0) pe_int (nomark _)))).pt (pss_one (ps_raE rfl tk (pmk_err Er_BadSize hr (pa_cons (pv 1) pa_nil)))) pss_nil)), ?_⟩
    try dsimp only [cxOf, Cx.nox, Cx.wish, List.map]
    walk_at "rd"
    rcases h with ⟨hb, kE⟩ | ⟨n, rfl, n1, k⟩
    · rcases hb with hb | ⟨i, rfl, hb⟩
      · refine wh_not hb ?_
        walk_at "rd"
        refine iteT ?_
        refine iteT ?_
        walk_at "rd"
        exact use_err rfl (by decide) fun d hd => kE d _ upd_same (Same.new hd)
      · refine wh_int ?_
        walk_at "rd"
        refine iteF ?_
        walk_at "rd"
        rw [decide_eq_true (show i < 1 from by omega)]
        walk_at "rd"
        refine iteT ?_
        walk_at "rd"
        exact use_err rfl (by decide) fun d hd => kE d _ upd_same (Same.new hd)
    · refine wh_int ?_
      walk_at "rd"
      refine iteF ?_
      walk_at "rd"
      rw [decide_eq_false (show ¬ n < 1 from by omega)]
      walk_at "rd"
      refine iteF ?_
      walk_at "rd"
      exact k
end
open PySem PySem.Spec PyProof.Rows L2 Hf
section
variable {P : Program} {w : World} {K : PySem.W.Frag} {mg : Str → Option Value} {base : Heap}
theorem ok_Box_init {C CX CB : Addr} (T : Txt K mg) (C0 : PlC K mg C) (B0 : BxC K mg CX) (nC : C ≠ CX) (c_need_place : Cal P w K mg base 6 "need_place" (spNeedP K C CB)) {f : Addr} {fd : FuncData} (F : Fun K "__init__" "Box.__init__" s_Box_init f fd) : FnOk P w K mg base (L2.CX P w) 7 f fd ["self", "x0", "x1", "y0", "y1"] (spBoxI K C CX CB) := by
  refine F.okX (P := P) (w := w) (mg := mg) (base := base) sc_Box_init (fun vs H Q E h => ?_) (fun cdv A outer s H vs Q E hr h => ?_)
  · obtain ⟨p, dx, v0, v1, v2, v3, rfl, _⟩ := h
    rfl
  · have tk : Takes (cxOf (L2.CX P w) P w K mg base ["self", "x0", "x1", "y0", "y1"] "Box.__init__" (defScope s_Box_init) f cdv A outer s H E) (fun cls d _ H => E cls d H) := takes_of rfl rfl rfl rfl
    have hu := hu_of hr
    obtain ⟨p, dx, v0, v1, v2, v3, rfl, hp0, n0, n1, n2, n3, h⟩ := h
    refine ⟨_, (pss_cons (ps_fld (pv 0) (pe_cl c_need_place hr (passE tk) (pa_cons (pv 1) (pa_cons pe_str pa_nil))) rfl)
  (pss_cons (ps_fld (pv 0) (pe_cl c_need_place hr (passE tk) (pa_cons (pv 2) (pa_cons pe_str pa_nil))) rfl)
  (pss_cons (ps_fld (pv 0) (pe_cl c_need_place hr (passE tk) (pa_cons (pv 3) (pa_cons pe_str pa_nil))) rfl)
  (pss_one (ps_fld (pv 0) (pe_cl c_need_place hr (passE tk) (pa_cons (pv 4) (pa_cons pe_str pa_nil))) rfl))))), ?_⟩
    try dsimp only [cxOf, Cx.nox, Cx.wish, List.map]
    walk_at "rd"
    refine ⟨v0, _, rfl, ?_⟩
    rcases h with ⟨hb, kE⟩ | ⟨t0, ho0, h⟩
    · exact .inl ⟨hb, fun d H' hd s' => kE d H' hd (Keep.of s')⟩
    refine .inr ⟨t0.1, t0.2.1, t0.2.2, ho0.1, ho0.2, fun q0 A0 g0 s0 => ?_⟩
    replace g0 : PAt C A0 q0 t0 := g0
    have hpA0 := s0 _ _ hp0
    have m0_0 := g0.ne nC hpA0
    walk_at "rd"
    refine ⟨p, CX, dx, _, rfl, hpA0, B0.cl, B0.n1, (by show 0 < 1000; decide), ?_⟩
    have ku0 : Keep p A0 (upd A0 p (.ins CX dx (putF "x0" (.ref q0) []))) := Keep.upd
    have hp1 : (upd A0 p (.ins CX dx (putF "x0" (.ref q0) []))) p = some (.ins CX dx (putF "x0" (.ref q0) [])) := upd_same
    have kp1 := (Keep.of s0 (b := p)).trans ku0
    have g0 := g0.keep ku0 m0_0
    generalize upd A0 p (.ins CX dx (putF "x0" (.ref q0) [])) = JJ0 at *
    walk_at "rd"
    refine ⟨v1, _, rfl, ?_⟩
    rcases h with ⟨hb, kE⟩ | ⟨t1, ho1, h⟩
    · exact .inl ⟨hb.keep kp1 n1, fun d H' hd s' => kE d H' hd (kp1.trans (Keep.of s'))⟩
    refine .inr ⟨t1.1, t1.2.1, t1.2.2, ho1.1.keep kp1 n1, ho1.2, fun q1 A1 g1 s1 => ?_⟩
    replace g1 : PAt C A1 q1 t1 := g1
    have hpA1 := s1 _ _ hp1
    have g0 := g0.same s1
    have m1_0 := g0.ne nC hpA1
    have m1_1 := g1.ne nC hpA1
    walk_at "rd"
    refine ⟨p, CX, dx, _, rfl, hpA1, B0.cl, B0.n2, (by show 1 < 1000; decide), ?_⟩
    have ku1 : Keep p A1 (upd A1 p (.ins CX dx (putF "x1" (.ref q1) (putF "x0" (.ref q0) [])))) := Keep.upd
    have hp2 : (upd A1 p (.ins CX dx (putF "x1" (.ref q1) (putF "x0" (.ref q0) [])))) p = some (.ins CX dx (putF "x1" (.ref q1) (putF "x0" (.ref q0) []))) := upd_same
    have kp2 := kp1.trans ((Keep.of s1 (b := p)).trans ku1)
    have g0 := g0.keep ku1 m1_0
    have g1 := g1.keep ku1 m1_1
    generalize upd A1 p (.ins CX dx (putF "x1" (.ref q1) (putF "x0" (.ref q0) []))) = JJ1 at *
    walk_at "rd"
    refine ⟨v2, _, rfl, ?_⟩
    rcases h with ⟨hb, kE⟩ | ⟨t2, ho2, h⟩
    · exact .inl ⟨hb.keep kp2 n2, fun d H' hd s' => kE d H' hd (kp2.trans (Keep.of s'))⟩
    refine .inr ⟨t2.1, t2.2.1, t2.2.2, ho2.1.keep kp2 n2, ho2.2, fun q2 A2 g2 s2 => ?_⟩
    replace g2 : PAt C A2 q2 t2 := g2
    have hpA2 := s2 _ _ hp2
    have g0 := g0.same s2
    have g1 := g1.same s2
    have m2_0 := g0.ne nC hpA2
    have m2_1 := g1.ne nC hpA2
    have m2_2 := g2.ne nC hpA2
    walk_at "rd"
    refine ⟨p, CX, dx, _, rfl, hpA2, B0.cl, B0.n3, ?sz2, ?_⟩
    case sz2 =>
      rw [pf_nil, pf_miss bf_01, pf_nil]
      show 2 < 1000
      decide
    have ku2 : Keep p A2 (upd A2 p (.ins CX dx (putF "y0" (.ref q2) (putF "x1" (.ref q1) (putF "x0" (.ref q0) []))))) := Keep.upd
    have hp3 : (upd A2 p (.ins CX dx (putF "y0" (.ref q2) (putF "x1" (.ref q1) (putF "x0" (.ref q0) []))))) p = some (.ins CX dx (putF "y0" (.ref q2) (putF "x1" (.ref q1) (putF "x0" (.ref q0) [])))) := upd_same
    have kp3 := kp2.trans ((Keep.of s2 (b := p)).trans ku2)
    have g0 := g0.keep ku2 m2_0
    have g1 := g1.keep ku2 m2_1
    have g2 := g2.keep ku2 m2_2
    generalize upd A2 p (.ins CX dx (putF "y0" (.ref q2) (putF "x1" (.ref q1) (putF "x0" (.ref q0) [])))) = JJ2 at *
    walk_at "rd"
    refine ⟨v3, _, rfl, ?_⟩
    rcases h with ⟨hb, kE⟩ | ⟨t3, ho3, h⟩
    · exact .inl ⟨hb.keep kp3 n3, fun d H' hd s' => kE d H' hd (kp3.trans (Keep.of s'))⟩
    refine .inr ⟨t3.1, t3.2.1, t3.2.2, ho3.1.keep kp3 n3, ho3.2, fun q3 A3 g3 s3 => ?_⟩
    replace g3 : PAt C A3 q3 t3 := g3
    have hpA3 := s3 _ _ hp3
    have g0 := g0.same s3
    have g1 := g1.same s3
    have g2 := g2.same s3
    have m3_0 := g0.ne nC hpA3
    have m3_1 := g1.ne nC hpA3
    have m3_2 := g2.ne nC hpA3
    have m3_3 := g3.ne nC hpA3
    walk_at "rd"
    refine ⟨p, CX, dx, _, rfl, hpA3, B0.cl, B0.n4, ?sz3, ?_⟩
    case sz3 =>
      rw [pf_nil, pf_miss bf_01, pf_nil, pf_miss bf_02, pf_miss bf_12, pf_nil]
      show 3 < 1000
      decide
    have ku3 : Keep p A3 (upd A3 p (.ins CX dx (putF "y1" (.ref q3) (putF "y0" (.ref q2) (putF "x1" (.ref q1) (putF "x0" (.ref q0) [])))))) := Keep.upd
    have hp4 : (upd A3 p (.ins CX dx (putF "y1" (.ref q3) (putF "y0" (.ref q2) (putF "x1" (.ref q1) (putF "x0" (.ref q0) [])))))) p = some (.ins CX dx (putF "y1" (.ref q3) (putF "y0" (.ref q2) (putF "x1" (.ref q1) (putF "x0" (.ref q0) []))))) := upd_same
    have kp4 := kp3.trans ((Keep.of s3 (b := p)).trans ku3)
    have g0 := g0.keep ku3 m3_0
    have g1 := g1.keep ku3 m3_1
    have g2 := g2.keep ku3 m3_2
    have g3 := g3.keep ku3 m3_3
    rw [bx_make] at hp4
    exact h _ q0 q1 q2 q3 hp4 g0 g1 g2 g3 kp4
end
open PySem PySem.Spec PyProof.Rows L2 Hf
section
variable {P : Program} {w : World} {K : PySem.W.Frag} {mg : Str → Option Value} {base : Heap}
theorem ok_Box_call {C CX CS : Addr} (T : Txt K mg) (C0 : PlC K mg C) (B0 : BxC K mg CX) (c_need_length : Cal P w K mg base 3 "need_length" (spNeedL K CS)) (m_pcall : Met P w K mg base 3 C "__call__" (spPlAtX K C CS)) (fi : ∀ g, Opr K C "__call__" g → PySem.W.fnIn K g = true) {f : Addr} {fd : FuncData} (F : Fun K "__call__" "Box.__call__" s_Box_call f fd) : FnOk P w K mg base (L2.CX P w) 5 f fd ["self", "width", "height"] (spBoxAt K C CX CS) := by
  refine F.okX (P := P) (w := w) (mg := mg) (base := base) sc_Box_call (fun vs H Q E h => ?_) (fun cdv A outer s H vs Q E hr h => ?_)
  · obtain ⟨p, t0, t1, t2, t3, a, b, rfl, g, h⟩ := h
    rfl
  · have tk : Takes (cxOf (L2.CX P w) P w K mg base ["self", "width", "height"] "Box.__call__" (defScope s_Box_call) f cdv A outer s H E) (fun cls d _ H => E cls d H) := takes_of rfl rfl rfl rfl
    obtain ⟨p, t0, t1, t2, t3, a, b, rfl, g, h⟩ := h
    have hu := hu_of hr
    refine ⟨_, (pss_cons (ps_expr (pe_cl c_need_length hr (passE tk) (pa_cons (pv 1) (pa_cons pe_str pa_nil))))
  (pss_cons (ps_expr (pe_cl c_need_length hr (passE tk) (pa_cons (pv 2) (pa_cons pe_str pa_nil))))
  (pss_one (ps_ret (pe_tup (pa_cons (pe_callF (pv 0) m_pcall fi hr passL (pa_cons (pv 1) pa_nil)) (pa_cons (pe_callF (pv 0) m_pcall fi hr passL (pa_cons (pv 1) pa_nil)) (pa_cons (pe_callF (pv 0) m_pcall fi hr passL (pa_cons (pv 2) pa_nil)) (pa_cons (pe_callF (pv 0) m_pcall fi hr passL (pa_cons (pv 2) pa_nil)) pa_nil))))))))), ?_⟩
    try dsimp only [cxOf, Cx.nox, Cx.wish, List.map]
    obtain ⟨dx, q0, q1, q2, q3, hp, h0, h1, h2, h3⟩ := id g
    walk_at "rd"
    refine ⟨a, _, rfl, ?_⟩
    rcases h with ⟨hb, kE⟩ | ⟨w0, rfl, w1, h⟩
    · exact .inl ⟨hb, kE⟩
    refine .inr ⟨w0, rfl, w1, ?_⟩
    walk_at "rd"
    refine ⟨b, _, rfl, ?_⟩
    rcases h with ⟨hb, kE⟩ | ⟨hh, rfl, hh1, sw, sh, s0, s1, s2, s3, k⟩
    · exact .inl ⟨hb, kE⟩
    refine .inr ⟨hh, rfl, hh1, ?_⟩
    walk_at "rd"
    refine rd_callF ?_
    walk_at "rd"
    obtain ⟨e0, z0⟩ := id h0
    refine ⟨p, CX, dx, _, q0, rfl, hp, B0.cl, B0.n1, bx_x0, ?_⟩
    walk_at "rd"
    refine ⟨⟨e0, _, z0⟩, q0, t0.1, t0.2.1, t0.2.2, _, rfl, h0, .inr ⟨w0, rfl, w1, s0.1, s0.2, sw, ?_⟩⟩
    walk_at "rd"
    refine rd_callF ?_
    walk_at "rd"
    obtain ⟨e1, z1⟩ := id h1
    refine ⟨p, CX, dx, _, q1, rfl, hp, B0.cl, B0.n2, bx_x1, ?_⟩
    walk_at "rd"
    refine ⟨⟨e1, _, z1⟩, q1, t1.1, t1.2.1, t1.2.2, _, rfl, h1, .inr ⟨w0, rfl, w1, s1.1, s1.2, sw, ?_⟩⟩
    walk_at "rd"
    refine rd_callF ?_
    walk_at "rd"
    obtain ⟨e2, z2⟩ := id h2
    refine ⟨p, CX, dx, _, q2, rfl, hp, B0.cl, B0.n3, bx_y0, ?_⟩
    walk_at "rd"
    refine ⟨⟨e2, _, z2⟩, q2, t2.1, t2.2.1, t2.2.2, _, rfl, h2, .inr ⟨hh, rfl, hh1, s2.1, s2.2, sh, ?_⟩⟩
    walk_at "rd"
    refine rd_callF ?_
    walk_at "rd"
    obtain ⟨e3, z3⟩ := id h3
    refine ⟨p, CX, dx, _, q3, rfl, hp, B0.cl, B0.n4, bx_y1, ?_⟩
    walk_at "rd"
    refine ⟨⟨e3, _, z3⟩, q3, t3.1, t3.2.1, t3.2.2, _, rfl, h3, .inr ⟨hh, rfl, hh1, s3.1, s3.2, sh, ?_⟩⟩
    walk_at "rd"
    exact new_tup (by show 4 ≤ 1000; decide) fun t J n e s => k t J e s
end
open PySem PySem.Spec PyProof.Rows L2 Hf
section
variable {P : Program} {w : World} {K : PySem.W.Frag} {mg : Str → Option Value} {base : Heap}
theorem ok_is_colour (T : Txt K mg) (c_is_whole : Cal P w K mg base 1 "is_whole" (spWhole K)) (D : DefAt K mg "is_colour" s_is_colour ["value"]) : Cal P w K mg base 2 "is_colour" (spColA K) := by
  obtain ⟨f, fd, hm, F, b⟩ := D
  refine ⟨f, fnR0 F b sc_is_colour (fun vs H Q E h => ?_) (fun cdv A outer s H vs Q E hr h => ?_), hm, F.kp⟩
  · obtain ⟨v, rfl, h⟩ := h
    rfl
  · obtain ⟨v, rfl, h⟩ := h
    have hu := hu_of hr
    refine ⟨_, (pss_one (ps_ret (pe_and (pe_cl c_is_whole hr passL (pa_cons (pv 0) pa_nil)) (pe_one (pe_chain op_le op_le pe_int (pv 0) pe_int))))), ?_⟩
    try dsimp only [cxOf, Cx.nox, Cx.wish, List.map]
    walk_at "rd"
    rcases h with ⟨n, k⟩ | ⟨i, rfl, k⟩
    · refine wh_not n ?_
      walk_at "rd"
      exact iteF k
    · refine wh_int ?_
      walk_at "rd"
      refine iteT ?_
      walk_at "rd"
      refine ch_bl (fun h0 => ?_) (fun h0 => ?_)
      · walk_at "rd"
        rw [h0, Bool.true_and] at k
        exact k
      · rw [h0, Bool.false_and] at k
        exact k
theorem ok_need_sizes {C : Addr} (T : Txt K mg) (C0 : PcC K mg C "DIGITS_pictures") (c_is_whole : Cal P w K mg base 1 "is_whole" (spWhole K)) (D : DefAt K mg "need_sizes" s_need_sizes ["width", "height"]) : Cal P w K mg base 2 "need_sizes" spNSz := by
  obtain ⟨f, fd, hm, F, b⟩ := D
  refine ⟨f, fnR0 F b sc_need_sizes (fun vs H Q E h => ?_) (fun cdv A outer s H vs Q E hr h => ?_), hm, F.kp⟩
  · obtain ⟨i, j, rfl, a1, a2, b1, b2, k⟩ := h
    rfl
  · obtain ⟨i, j, rfl, a1, a2, b1, b2, k⟩ := h
    have hu := hu_of hr
    refine ⟨_, (pss_one (ps_for PassesOwn.never rfl (pi_tup (pe_tup (pa_cons (pe_tup (pa_cons pe_str (pa_cons (pv 0) pa_nil))) (pa_cons (pe_tup (pa_cons pe_str (pa_cons (pv 1) pa_nil))) pa_nil)))) (pg_tup rfl (pgs_cons (pg_name (i := 2) sc_need_sizes.nd rfl (Or.inl rfl)) (pgs_cons (pg_name (i := 3) sc_need_sizes.nd rfl (Or.inl rfl)) pgs_nil)))
  (pss_one (ps_if (pw_or (pt_not (pt_val (pe_cl c_is_whole hr passL (pa_cons (pv 3) pa_nil)))) (pw_or1 (pt_not (pt_chain op_le op_le pe_int (pv 3) (pe_globI C0.ms))))).pt pss_never pss_nil)))), ?_⟩
    try dsimp only [cxOf, Cx.nox, Cx.wish, List.map]
    walk_at "rd"
    refine new_tup (by show 2 ≤ 1000; decide) fun t1 H1 n1 e1 s1 => ?_
    walk_at "rd"
    refine new_tup (by show 2 ≤ 1000; decide) fun t2 H2 n2 e2 s2 => ?_
    walk_at "rd"
    refine new_tup (by show 2 ≤ 1000; decide) fun t3 H3 n3 e3 s3 => ?_
    have e1 := s3 _ _ (s2 _ _ e1)
    have e2 := s3 _ _ e2
    refine ⟨t3, rfl, ⟨_, SqT.of e3⟩, for_tup (K := K) (a := t3) (xs := [.ref t1, .ref t2]) (fun n σ H' => (∃ v2 v3 : Option V, σ = [some (.int i), some (.int j), v2, v3]) ∧ H' = H3) ⟨⟨none, none, rfl⟩, rfl⟩ (fun n σ H' _ ⟨_, e⟩ => by rw [e]; exact SqT.of e3) ?_ ?_⟩
    · rintro n y σ H' hn ⟨⟨v2, v3, rfl⟩, rfl⟩
      obtain ⟨t, nm, z, rfl, et, z1, z2⟩ : ∃ (t : Addr) (nm : Str) (z : Int), y = .ref t ∧ H' t = some (.tup [.str nm, .int z]) ∧ 1 ≤ z ∧ z ≤ 200 := by
        match n, hn with
        | 0, hn => cases hn; exact ⟨_, _, _, rfl, e1, a1, a2⟩
        | 1, hn => cases hn; exact ⟨_, _, _, rfl, e2, b1, b2⟩
        | n + 2, hn => simp at hn
      refine rd_gtup (SqT.of et) rfl ?_
      walk_at "rd"
      refine wh_int ?_
      walk_at "rd"
      refine iteF ?_
      walk_at "rd"
      refine ch_yes (decide_eq_true z1) ?_
      walk_at "rd"
      rw [decide_eq_true z2]
      walk_at "rd"
      refine iteF ?_
      walk_at "rd"
      exact ⟨⟨_, _, rfl⟩, rfl⟩
    · rintro σ H' ⟨_, rfl⟩
      exact k _ ((s1.trans s2).trans s3)
theorem ok_is_line {C : Addr} (T : Txt K mg) (C0 : PcC K mg C "DIGITS_pictures") (D : DefAt K mg "is_line" s_is_line ["value"]) : Cal P w K mg base 1 "is_line" spLine := by
  obtain ⟨f, fd, hm, F, b⟩ := D
  refine ⟨f, fnR0 F b sc_is_line (fun vs H Q E h => ?_) (fun cdv A outer s H vs Q E hr h => ?_), hm, F.kp⟩
  · obtain ⟨r, rfl, r1, r2, r3, k⟩ := h
    rfl
  · obtain ⟨r, rfl, r1, r2, r3, k⟩ := h
    have hu := hu_of hr
    refine ⟨_, (pss_cons (ps_if (pw_or (pt_not (pt_val (pe_callB call_isi (by rfl) T.b_isinstance (by decide +kernel) (pa_cons (pv 0) (pa_cons (pe_bltn (v := .ty "str") (by rfl) T.b_str (by decide +kernel) rfl) pa_nil))))) (pw_or1 (pt_not (pt_chain op_le op_le pe_int (pe_callB call_len_str (by rfl) T.b_len (by decide +kernel) (pa_cons (pv 0) pa_nil)) (pe_globI C0.ms))))).pt (pss_one (ps_ret pe_bl)) pss_nil)
  (pss_one (ps_ret (pe_callB (cr_all rfl) (by rfl) T.b_all (by decide +kernel) (pa_cons (pe_lc (own := [("sign", 1)]) (by rfl) sc_is_line.nd (pi_str (pv 0)) (blkOk_by (own := [("sign", 1)]) (N := ["value", "sign"]) (sc := defScope s_is_line) (by decide +kernel)) (fun _ _ _ _ _ => (pg_name (i := 1) sc_is_line.nd rfl (Or.inl rfl))) (fun _ _ _ _ _ => pts_nil) (fun _ _ _ _ _ => (pe_cmpR op_in_sign (pv 1) (pe_globS C0.dg) (by with_unfolding_all rfl)))) pa_nil))))), ?_⟩
    try dsimp only [cxOf, Cx.nox, Cx.wish, List.map]
    walk_at "rd"
    refine rd_isi (b := true) (.ty "str") (.base (.str _)) (by kernel_rfl) ?_
    walk_at "rd"
    refine iteF ?_
    walk_at "rd"
    refine ⟨_, rfl, row_szl r2, ?_⟩
    rw [row_len]
    walk_at "rd"
    refine ch_yes (decide_eq_true (by omega)) ?_
    walk_at "rd"
    rw [decide_eq_true (show (r.length : Int) ≤ 200 from by omega)]
    walk_at "rd"
    refine iteF ?_
    walk_at "rd"
    refine ⟨_, rfl, ?_⟩
    refine lc_mapW walk_str (fun _ => .bl true) (fun _ _ => trivial) (by rw [row_size]; omega) (fun j x H1 H2 R hj s1 y kk => ?_) fun D H1 nD eD s1 => ?_
    · obtain ⟨rfl, c, hc, rfl⟩ := y
      obtain ⟨d, hd, rfl⟩ := row_get hc
      have hd10 := r3 d (List.mem_of_getElem? hd)
      refine rd_gname ?_
      refine ⟨wipe1, ?_⟩
      walk_at "rd"
      refine ⟨48 + d, _, rfl, rfl, ?_⟩
      have f : ∀ m : Nat, m < 10 → decide (48 + m ∈ (Str.ofString "0123456789").cps.toList) = true := by decide +kernel
      rw [f d hd10]
      exact kk _ (Same.refl _)
    · refine ⟨D, (List.range (rowS r).cps.size).map fun _ => true, rfl, ?_, ?_⟩
      · rw [List.map_map]
        exact SqL.of eD
      · rw [show (((List.range (rowS r).cps.size).map fun _ => true).all id) = true from by simp]
        exact k _ s1
theorem ok_wrong_line (T : Txt K mg) (c_is_line : Cal P w K mg base 1 "is_line" spLine) (D : DefAt K mg "wrong_line" s_wrong_line ["rows"]) : Cal P w K mg base 2 "wrong_line" (spWLineA K) := by
  obtain ⟨f, fd, hm, F, b⟩ := D
  refine ⟨f, fnR0 F b sc_wrong_line (fun vs H Q E h => ?_) (fun cdv A outer s H vs Q E hr h => ?_), hm, F.kp⟩
  · obtain ⟨l, R, w0, h0, rfl, HL, G, F, k⟩ := h
    rfl
  · obtain ⟨l, R, w0, h0, rfl, HL, G, F, k⟩ := h
    have hu := hu_of hr
    refine ⟨_, (pss_cons (ps_for PassesOwn.never rfl (pi_enumA rfl T.b_enumerate (pa_cons (pv 0) pa_nil)) (pg_tup rfl (pgs_cons (pg_name (i := 1) sc_wrong_line.nd rfl (Or.inl rfl)) (pgs_cons (pg_name (i := 2) sc_wrong_line.nd rfl (Or.inl rfl)) pgs_nil)))
  (pss_one (ps_if (pw_or (pt_not (pt_val (pe_cl c_is_line hr passL (pa_cons (pv 2) pa_nil)))) (pw_or1 (pt_cmpR op_ne (pe_callB call_len_str (by rfl) T.b_len (by decide +kernel) (pa_cons (pv 2) pa_nil)) (pe_callB call_len_str (by rfl) T.b_len (by decide +kernel) (pa_cons (pe_ix ix_seq (pv 0) pe_int (fun _ _ => rfl)) pa_nil)) (nomark _)))).pt pss_never pss_nil)))
  (pss_one (ps_ret pe_non))), ?_⟩
    try dsimp only [cxOf, Cx.nox, Cx.wish, List.map]
    with_reducible refine rd_seq ?_
    with_reducible refine rd_for ?_
    rcases id HL with hl | hl
    · refine rd_enumL ?_
      walk_at "rd"
      refine ⟨l, _, rfl, hl, ?_⟩
      refine for_it walk_enum (fun n σ H' => (∃ v1 v2 : Option V, σ = [some (.ref l), v1, v2]) ∧ Same H H') ⟨⟨none, none, rfl⟩, Same.refl _⟩ (fun n σ H' _ p => p.2.seq hl) ?_ ?_
      · rintro n y σ H1 H2 hn ⟨⟨v1, v2, rfl⟩, s1⟩ hy
        obtain ⟨t, x, z, rfl, nt, rfl, ex, ez⟩ := hy
        cases ex
        obtain ⟨r, er, rfl⟩ := map_get ez
        have hr := List.mem_of_getElem? er
        have s2 := s1.trans (Same.new (o := .tup [.int (n : Nat), rowV r]) nt)
        refine rd_gtup (SqT.of upd_same) rfl ?_
        generalize upd H1 t _ = H3 at *
        walk_at "rd"
        refine ⟨r, rfl, by rw [G.w r hr]; exact F.w1, by rw [G.w r hr]; exact F.w2, G.d r hr, fun H4 s4 => ?_⟩
        have s3 := s2.trans s4
        walk_at "rd"
        refine iteF ?_
        walk_at "rd"
        refine ⟨_, rfl, row_szl (by rw [G.w r hr]; exact F.w2), ?_⟩
        rw [row_len]
        walk_at "rd"
        obtain ⟨r0, e0⟩ : ∃ r0, R[0]? = some r0 := ⟨R[0]'(by rw [G.h]; exact F.h1), List.getElem?_eq_getElem _⟩
        have hr0 := List.mem_of_getElem? e0
        refine use_ixA (i := 0) (HL.same s3) e0 ?_
        refine ⟨_, rfl, row_szl (by rw [G.w r0 hr0]; exact F.w2), ?_⟩
        rw [row_len]
        walk_at "rd"
        refine ne_no (by rw [G.w r hr, G.w r0 hr0]) ?_
        walk_at "rd"
        exact ⟨⟨_, _, rfl⟩, s3⟩
      · rintro σ H' ⟨_, s1⟩
        walk_at "rd"
        exact k _ s1
    · refine rd_enumT ?_
      walk_at "rd"
      refine ⟨l, _, rfl, hl, ?_⟩
      refine for_it walk_enumT (fun n σ H' => (∃ v1 v2 : Option V, σ = [some (.ref l), v1, v2]) ∧ Same H H') ⟨⟨none, none, rfl⟩, Same.refl _⟩ (fun n σ H' _ p => same_tup p.2 hl) ?_ ?_
      · rintro n y σ H1 H2 hn ⟨⟨v1, v2, rfl⟩, s1⟩ hy
        obtain ⟨t, x, z, rfl, nt, rfl, ex, ez⟩ := hy
        cases ex
        obtain ⟨r, er, rfl⟩ := map_get ez
        have hr := List.mem_of_getElem? er
        have s2 := s1.trans (Same.new (o := .tup [.int (n : Nat), rowV r]) nt)
        refine rd_gtup (SqT.of upd_same) rfl ?_
        generalize upd H1 t _ = H3 at *
        walk_at "rd"
        refine ⟨r, rfl, by rw [G.w r hr]; exact F.w1, by rw [G.w r hr]; exact F.w2, G.d r hr, fun H4 s4 => ?_⟩
        have s3 := s2.trans s4
        walk_at "rd"
        refine iteF ?_
        walk_at "rd"
        refine ⟨_, rfl, row_szl (by rw [G.w r hr]; exact F.w2), ?_⟩
        rw [row_len]
        walk_at "rd"
        obtain ⟨r0, e0⟩ : ∃ r0, R[0]? = some r0 := ⟨R[0]'(by rw [G.h]; exact F.h1), List.getElem?_eq_getElem _⟩
        have hr0 := List.mem_of_getElem? e0
        refine use_ixA (i := 0) (HL.same s3) e0 ?_
        refine ⟨_, rfl, row_szl (by rw [G.w r0 hr0]; exact F.w2), ?_⟩
        rw [row_len]
        walk_at "rd"
        refine ne_no (by rw [G.w r hr, G.w r0 hr0]) ?_
        walk_at "rd"
        exact ⟨⟨_, _, rfl⟩, s3⟩
      · rintro σ H' ⟨_, s1⟩
        walk_at "rd"
        exact k _ s1
theorem ok_Picture_init {C : Addr} (T : Txt K mg) (C0 : PcC K mg C "DIGITS_pictures") (c_wrong_line : Cal P w K mg base 2 "wrong_line" (spWLineA K)) {f : Addr} {fd : FuncData} (F : Fun K "__init__" "Picture.__init__" s_Picture_init f fd) : FnOk P w K mg base (L2.CX P w) 3 f fd ["self", "rows"] (spPicA C) := by
  refine fnOk0 F sc_Picture_init (fun vs H Q E h => ?_) (fun cdv A outer s H vs Q E hr h => ?_)
  · obtain ⟨p, dx, l, R, w0, h0, rfl, _⟩ := h
    rfl
  · obtain ⟨p, dx, l, R, w0, h0, rfl, hp, HL, G, F1, k⟩ := h
    refine ⟨_, (pss_cons (ps_if (pw_or (pt_not (pt_val (pe_callB call_isiT (by rfl) T.b_isinstance (by decide +kernel) (pa_cons (pv 1) (pa_cons (pe_tup (pa_cons (pe_bltn (v := .ty "list") (by rfl) T.b_list (by decide +kernel) rfl) (pa_cons (pe_bltn (v := .ty "tuple") (by rfl) T.b_tuple (by decide +kernel) rfl) pa_nil))) pa_nil))))) (pw_or1 (pt_not (pt_chain op_le op_le pe_int (pe_callB call_len_seq (by rfl) T.b_len (by decide +kernel) (pa_cons (pv 1) pa_nil)) (pe_globI C0.ms))))).pt pss_never pss_nil)
  (pss_cons (ps_set (i := 2) sc_Picture_init.nd rfl (Or.inl rfl) (pe_cl c_wrong_line hr passL (pa_cons (pv 1) pa_nil)))
  (pss_cons (ps_if (pt_cmpR op_notN (pv 2) pe_non (nomark _)) pss_never pss_nil)
  (pss_cons (ps_fld (pv 0) (pe_callTy call_tuple_of (by rfl) T.b_tuple (by decide +kernel) (pa_cons (pv 1) pa_nil)) rfl)
  (pss_cons (ps_fld (pv 0) (pe_callB call_len_str (by rfl) T.b_len (by decide +kernel) (pa_cons (pe_ix ix_seq (pv 1) pe_int (fun _ _ => rfl)) pa_nil)) rfl)
  (pss_one (ps_fld (pv 0) (pe_callB call_len_seq (by rfl) T.b_len (by decide +kernel) (pa_cons (pv 1) pa_nil)) rfl))))))), ?_⟩
    try dsimp only [cxOf, Cx.nox, Cx.wish, List.map]
    walk_at "rd"
    refine new_tup (by show 2 ≤ 1000; decide) fun t1 H1 n1 e1 s1 => ?_
    have w1 := F1.w1
    have w2 := F1.w2
    have h1 := F1.h1
    have h2 := F1.h2
    rcases HL with hl | hl
    · have hl1 := s1 _ _ hl
      refine ⟨_, t1, _, .type "list", _, true, rfl, e1, .cons (.ty "list") (.cons (.ty "tuple") .nil), .base (.lst hl1), by kernel_rfl, ?_⟩
      walk_at "rd"
      refine iteF ?_
      walk_at "rd"
      refine ⟨l, _, rfl, .inl (SqL.of hl1), ?_⟩
      rw [List.length_map, G.h]
      walk_at "rd"
      refine ch_yes (decide_eq_true (by omega)) ?_
      walk_at "rd"
      rw [decide_eq_true (show (h0 : Int) ≤ 200 from by omega)]
      walk_at "rd"
      refine iteF ?_
      walk_at "rd"
      refine ⟨l, R, w0, h0, rfl, .inl (SqL.of hl1), G, F1, fun H2 s2 => ?_⟩
      have s12 := s1.trans s2
      have hl2 := s12 _ _ hl
      have hp2 := s12 _ _ hp
      walk_at "rd"
      refine ⟨rfl, ?_⟩
      walk_at "rd"
      refine ite_no (by rfl) ?_
      walk_at "rd"
      refine ⟨l, _, rfl, .inl ⟨SqL.of hl2, fun t n3 => ?_⟩⟩
      have s3 := Same.new (o := .tup (R.map rowV)) n3
      have e3 := upd_same (H := H2) (a := t) (o := .tup (R.map rowV))
      generalize upd H2 t _ = H3 at *
      have hl3 := s3 _ _ hl2
      have hp3 := s3 _ _ hp2
      have tp : t ≠ p := (ne_of_none hp2 n3).symm
      have lp : l ≠ p := ne_of hl hp (by intro z; cases z)
      walk_at "rd"
      refine ⟨p, C, dx, [], rfl, hp3, C0.cl, C0.n1, (by show 0 < 1000; decide), ?_⟩
      walk_at "rd"
      obtain ⟨r0, e0⟩ : ∃ r0, R[0]? = some r0 := ⟨R[0]'(by rw [G.h]; exact F1.h1), List.getElem?_eq_getElem _⟩
      refine use_ixA (i := 0) (.inl (SqL.of (by rw [upd_ne lp]; exact hl3))) e0 ?_
      refine ⟨_, rfl, row_szl (by rw [G.w r0 (List.mem_of_getElem? e0)]; exact F1.w2), ?_⟩
      rw [row_len, G.w r0 (List.mem_of_getElem? e0)]
      walk_at "rd"
      refine ⟨p, C, dx, _, rfl, upd_same, C0.cl, C0.n2, (by show 1 < 1000; decide), ?_⟩
      walk_at "rd"
      refine ⟨l, _, rfl, .inl (SqL.of (by rw [upd_ne lp, upd_ne lp]; exact hl3)), ?_⟩
      rw [List.length_map, G.h]
      walk_at "rd"
      refine ⟨p, C, dx, _, rfl, upd_same, C0.cl, C0.n3, ?_, ?_⟩
      · rw [pf_nil, pf_miss f_rw, pf_nil]
        show 2 < 1000
        decide
      · refine k _ ⟨dx, t, Eq.trans upd_same (congrArg (fun l => some (HO.ins C dx l)) pc_make), ?_⟩ fun b u e n => ?_
        · rw [upd_ne tp, upd_ne tp, upd_ne tp]
          exact e3
        · rw [upd_ne n, upd_ne n, upd_ne n]
          exact s3 b u (s12 b u e)
    · have hl1 := s1 _ _ hl
      refine ⟨_, t1, _, .type "tuple", _, true, rfl, e1, .cons (.ty "list") (.cons (.ty "tuple") .nil), .base (.tup hl1), by kernel_rfl, ?_⟩
      walk_at "rd"
      refine iteF ?_
      walk_at "rd"
      refine ⟨l, _, rfl, .inr (SqT.of hl1), ?_⟩
      rw [List.length_map, G.h]
      walk_at "rd"
      refine ch_yes (decide_eq_true (by omega)) ?_
      walk_at "rd"
      rw [decide_eq_true (show (h0 : Int) ≤ 200 from by omega)]
      walk_at "rd"
      refine iteF ?_
      walk_at "rd"
      refine ⟨l, R, w0, h0, rfl, .inr (SqT.of hl1), G, F1, fun H2 s2 => ?_⟩
      have s12 := s1.trans s2
      have hl2 := s12 _ _ hl
      have hp2 := s12 _ _ hp
      walk_at "rd"
      refine ⟨rfl, ?_⟩
      walk_at "rd"
      refine ite_no (by rfl) ?_
      walk_at "rd"
      refine ⟨l, _, rfl, .inr ⟨SqT.of hl2, ?_⟩⟩
      obtain ⟨t, et⟩ : ∃ t, t = l := ⟨_, rfl⟩
      have s3 := Same.refl H2
      have e3 := hl2
      have hl3 := hl2
      have hp3 := hp2
      rw [← et] at e3
      have tp : t ≠ p := by rw [et]; exact ne_of hl hp (by intro z; cases z)
      have lp : l ≠ p := ne_of hl hp (by intro z; cases z)
      walk_at "rd"
      refine ⟨p, C, dx, [], rfl, hp3, C0.cl, C0.n1, (by show 0 < 1000; decide), ?_⟩
      walk_at "rd"
      obtain ⟨r0, e0⟩ : ∃ r0, R[0]? = some r0 := ⟨R[0]'(by rw [G.h]; exact F1.h1), List.getElem?_eq_getElem _⟩
      refine use_ixA (i := 0) (.inr (SqT.of (by rw [upd_ne lp]; exact hl3))) e0 ?_
      refine ⟨_, rfl, row_szl (by rw [G.w r0 (List.mem_of_getElem? e0)]; exact F1.w2), ?_⟩
      rw [row_len, G.w r0 (List.mem_of_getElem? e0)]
      walk_at "rd"
      refine ⟨p, C, dx, _, rfl, upd_same, C0.cl, C0.n2, (by show 1 < 1000; decide), ?_⟩
      walk_at "rd"
      refine ⟨l, _, rfl, .inr (SqT.of (by rw [upd_ne lp, upd_ne lp]; exact hl3)), ?_⟩
      rw [List.length_map, G.h]
      walk_at "rd"
      refine ⟨p, C, dx, _, rfl, upd_same, C0.cl, C0.n3, ?_, ?_⟩
      · rw [pf_nil, pf_miss f_rw, pf_nil]
        show 2 < 1000
        decide
      · refine k _ ⟨dx, l, Eq.trans upd_same (congrArg (fun l => some (HO.ins C dx l)) pc_make), ?_⟩ fun b u e n => ?_
        · rw [upd_ne lp, upd_ne lp, upd_ne lp]
          exact hl3
        · rw [upd_ne n, upd_ne n, upd_ne n]
          exact s3 b u (s12 b u e)
theorem ok_is_inside (T : Txt K mg) (D : DefAt K mg "is_inside" s_is_inside ["rows", "x", "y"]) : Cal P w K mg base 1 "is_inside" (spInside K) := by
  obtain ⟨f, fd, hm, F, b⟩ := D
  refine ⟨f, fnR0 F b sc_is_inside (fun vs H Q E h => ?_) (fun cdv A outer s H vs Q E hr h => ?_), hm, F.kp⟩
  · obtain ⟨l, R, w0, h0, x, y, rfl, HL, G, F, k⟩ := h
    rfl
  · obtain ⟨l, R, w0, h0, x, y, rfl, HL, G, F, k⟩ := h
    have hu := hu_of hr
    refine ⟨_, (pss_one (ps_ret (pe_and (pe_chain op_le op_lt pe_int (pv 2) (pe_callB call_len_seq (by rfl) T.b_len (by decide +kernel) (pa_cons (pv 0) pa_nil))) (pe_one (pe_chain op_le op_lt pe_int (pv 1) (pe_callB call_len_str (by rfl) T.b_len (by decide +kernel) (pa_cons (pe_ix ix_seq (pv 0) pe_int (fun _ _ => rfl)) pa_nil))))))), ?_⟩
    try dsimp only [cxOf, Cx.nox, Cx.wish, List.map]
    have w1 := F.w1
    have w2 := F.w2
    have h1 := F.h1
    have h2 := F.h2
    obtain ⟨r0, e0⟩ : ∃ r0, R[0]? = some r0 := ⟨R[0]'(by rw [G.h]; exact F.h1), List.getElem?_eq_getElem _⟩
    have lr0 := G.w r0 (List.mem_of_getElem? e0)
    unfold insideB at k
    have fin : ∀ b : Bool, (decide (0 ≤ y) && decide (y < h0)) = b → (b = true → Q (.bl (decide (0 ≤ x) && decide (x < w0))) H) ∧ (b = false → Q (.bl false) H) := fun b e => by
      rw [e] at k
      cases b with
      | true => exact ⟨(fun _ => by rw [Bool.true_and] at k; exact k), (fun z => by cases z)⟩
      | false => exact ⟨(fun z => by cases z), (fun _ => by rw [Bool.false_and] at k; exact k)⟩
    walk_at "rd"
    refine ch_bl (fun hy0 => ?_) (fun hy0 => ?_)
    · walk_at "rd"
      refine ⟨l, _, rfl, HL, ?_⟩
      rw [List.length_map, G.h]
      walk_at "rd"
      obtain ⟨f1, f2⟩ := fin (decide (y < h0)) (by rw [hy0, Bool.true_and])
      cases ey : decide (y < (h0 : Int)) with
      | false => exact iteF (f2 ey)
      | true =>
        refine iteT ?_
        have k := f1 ey
        walk_at "rd"
        refine ch_bl (fun hx0 => ?_) (fun hx0 => ?_)
        · walk_at "rd"
          refine use_ixA (i := 0) HL e0 ?_
          refine ⟨_, rfl, row_szl (by omega), ?_⟩
          rw [row_len, lr0]
          walk_at "rd"
          rw [hx0, Bool.true_and] at k
          exact k
        · rw [hx0, Bool.false_and] at k
          exact k
    · have f2 := (fin false (by rw [hy0, Bool.false_and])).2 rfl
      exact ⟨false, rfl, iteF f2⟩
theorem ok_Picture_getitem {C : Addr} (T : Txt K mg) (C0 : PcC K mg C "DIGITS_pictures") (c_need_pixel : Cal P w K mg base 3 "need_pixel" (spNPix K)) (D : MetAt K C "__getitem__" "Picture.__getitem__" s_Picture_getitem ["self", "at"]) : Met P w K mg base 4 C "__getitem__" (spGet C) := by
  obtain ⟨f, fd, hm, F, b⟩ := D
  refine ⟨f, fnR0 F b sc_Picture_getitem (fun vs H Q E h => ?_) (fun cdv A outer s H vs Q E hr h => ?_), hm⟩
  · obtain ⟨p, t0, R, w0, h0, i, j, d, r, rfl, g, F, ht0, hi, hj, er, ed, k⟩ := h
    rfl
  · obtain ⟨p, t0, R, w0, h0, i, j, d, r, rfl, g, F, ht0, hi, hj, er, ed, k⟩ := h
    have hu := hu_of hr
    refine ⟨_, (pss_cons (ps_asg (pv 1) (pg_tup rfl (pgs_cons (pg_name (i := 2) sc_Picture_getitem.nd rfl (Or.inl rfl)) (pgs_cons (pg_name (i := 3) sc_Picture_getitem.nd rfl (Or.inl rfl)) pgs_nil))))
  (pss_cons (ps_expr (pe_cl c_need_pixel hr passL (pa_cons (pe_fld (pv 0) rfl) (pa_cons (pv 2) (pa_cons (pv 3) pa_nil)))))
  (pss_one (ps_ret (pe_callTy call_int_str (by rfl) T.b_int (by decide +kernel) (pa_cons (pe_ix ix_str (pe_ix ix_tup (pe_fld (pv 0) rfl) (pv 3) (fun _ _ => rfl)) (pv 2) (fun _ _ => rfl)) pa_nil)))))), ?_⟩
    try dsimp only [cxOf, Cx.nox, Cx.wish, List.map]
    obtain ⟨dx, t, hp, ht⟩ := id g.at_
    have w2 := F.w2
    walk_at "rd"
    refine rd_gtup (SqT.of ht0) rfl ?_
    walk_at "rd"
    refine rd_fldK hp C0.cl C0.n1 pc_rows ?_
    walk_at "rd"
    refine ⟨t, R, w0, h0, i, j, rfl, .inr (SqT.of ht), g.g, F, ?_, ?_⟩
    · unfold insideB
      rw [decide_eq_true (show (0 : Int) ≤ j from by omega), decide_eq_true (show (j : Int) < h0 from by omega), decide_eq_true (show (0 : Int) ≤ i from by omega), decide_eq_true (show (i : Int) < w0 from by omega)]
      rfl
    walk_at "rd"
    refine rd_fldK hp C0.cl C0.n1 pc_rows ?_
    walk_at "rd"
    have hr := List.mem_of_getElem? er
    refine use_ixT (SqT.of ht) (atI_nat (by rw [List.getElem?_map, er]; rfl)) ?_
    walk_at "rd"
    refine use_ixR ed (by rw [g.g.w r hr]; omega) ?_
    refine ⟨_, _, rfl, int_digit (g.g.d r hr d (List.mem_of_getElem? ed)), by rw [row_len]; show 1 ≤ 640; decide, ?_⟩
    exact k
end
open PySem PySem.Spec PyProof.Rows L2 Hf
section
variable {P : Program} {w : World} {K : PySem.W.Frag} {mg : Str → Option Value} {base : Heap}
theorem ok_need_colour {CB : Addr} (T : Txt K mg) (c_is_colour : Cal P w K mg base 2 "is_colour" (spColA K)) (Er_BadColour : Err P w K mg base "BadColour" CB ["value"]) (D : DefAt K mg "need_colour" s_need_colour ["value"]) : Cal P w K mg base 4 "need_colour" (spNColX K CB) := by
  obtain ⟨f, fd, hm, F, b⟩ := D
  refine ⟨f, fnRX F b sc_need_colour (fun vs H Q E h => ?_) (fun cdv A outer s H vs Q E hr tk h => ?_), hm, F.kp⟩
  · obtain ⟨v, rfl, h⟩ := h
    rfl
  · obtain ⟨v, rfl, h⟩ := h
    have hu := hu_of hr
    refine ⟨_, (pss_one (ps_if (pt_not (pt_val (pe_cl c_is_colour hr passL (pa_cons (pv 0) pa_nil)))) (pss_one (ps_raE rfl tk (pmk_err Er_BadColour hr (pa_cons (pv 0) pa_nil)))) pss_nil)), ?_⟩
    try dsimp only [cxOf, Cx.nox, Cx.wish, List.map]
    walk_at "rd"
    rcases h with ⟨hb, kE⟩ | ⟨i, rfl, i0, i9, k⟩
    · refine ⟨v, rfl, ?_⟩
      rcases hb with hb | ⟨i, rfl, hb⟩
      · refine .inl ⟨hb, ?_⟩
        walk_at "rd"
        refine iteT ?_
        walk_at "rd"
        exact use_err rfl (by decide) fun d hd => kE d _ upd_same (Same.new hd)
      · refine .inr ⟨i, rfl, ?_⟩
        rw [show (decide (0 ≤ i) && decide (i ≤ 9)) = false from by
          rw [Bool.and_eq_false_iff, decide_eq_false_iff_not, decide_eq_false_iff_not]
          omega]
        walk_at "rd"
        refine iteT ?_
        walk_at "rd"
        exact use_err rfl (by decide) fun d hd => kE d _ upd_same (Same.new hd)
    · refine ⟨_, rfl, .inr ⟨i, rfl, ?_⟩⟩
      rw [decide_eq_true i0, decide_eq_true i9]
      walk_at "rd"
      refine iteF ?_
      walk_at "rd"
      exact k
theorem ok_need_pixel {CX : Addr} (T : Txt K mg) (c_is_whole : Cal P w K mg base 1 "is_whole" (spWhole K)) (c_is_inside : Cal P w K mg base 1 "is_inside" (spInside K)) (Er_BadPixel : Err P w K mg base "BadPixel" CX ["x", "y"]) (D : DefAt K mg "need_pixel" s_need_pixel ["rows", "x", "y"]) : Cal P w K mg base 3 "need_pixel" (spNPixX K CX) := by
  obtain ⟨f, fd, hm, F, b⟩ := D
  refine ⟨f, fnRX F b sc_need_pixel (fun vs H Q E h => ?_) (fun cdv A outer s H vs Q E hr tk h => ?_), hm, F.kp⟩
  · obtain ⟨l, R, w0, h0, a, b, rfl, HL, G, F, h⟩ := h
    rfl
  · obtain ⟨l, R, w0, h0, a, b, rfl, HL, G, F, h⟩ := h
    have hu := hu_of hr
    refine ⟨_, (pss_one (ps_if (pw_or (pt_not (pt_val (pe_cl c_is_whole hr passL (pa_cons (pv 1) pa_nil)))) (pw_or (pt_not (pt_val (pe_cl c_is_whole hr passL (pa_cons (pv 2) pa_nil)))) (pw_or1 (pt_not (pt_val (pe_cl c_is_inside hr passL (pa_cons (pv 0) (pa_cons (pv 1) (pa_cons (pv 2) pa_nil))))))))).pt (pss_one (ps_raE rfl tk (pmk_err Er_BadPixel hr (pa_cons (pv 1) (pa_cons (pv 2) pa_nil))))) pss_nil)), ?_⟩
    try dsimp only [cxOf, Cx.nox, Cx.wish, List.map]
    walk_at "rd"
    have err : LetS E CX H [("y", b), ("x", a)] → MkEK CX ["x", "y"] (fun cls d H' => E cls d H') [a, b] H := fun kE => use_err rfl (by decide) fun d hd => kE d _ upd_same (Same.new hd)
    rcases h with ⟨hb, kE⟩ | ⟨i, j, rfl, rfl, hi, k⟩
    · rcases hb with hb | ⟨i, rfl, hb⟩
      · refine wh_not hb ?_
        walk_at "rd"
        refine iteT ?_
        refine iteT ?_
        walk_at "rd"
        exact err kE
      · refine wh_int ?_
        walk_at "rd"
        refine iteF ?_
        walk_at "rd"
        rcases hb with hb | ⟨j, rfl, hb⟩
        · refine wh_not hb ?_
          walk_at "rd"
          refine iteT ?_
          refine iteT ?_
          walk_at "rd"
          exact err kE
        · refine wh_int ?_
          walk_at "rd"
          refine iteF ?_
          walk_at "rd"
          refine ⟨l, R, w0, h0, i, j, rfl, HL, G, F, ?_⟩
          rw [hb]
          walk_at "rd"
          refine iteT ?_
          walk_at "rd"
          exact err kE
    · refine wh_int ?_
      walk_at "rd"
      refine iteF ?_
      walk_at "rd"
      refine wh_int ?_
      walk_at "rd"
      refine iteF ?_
      walk_at "rd"
      refine ⟨l, R, w0, h0, i, j, rfl, HL, G, F, ?_⟩
      rw [hi]
      walk_at "rd"
      refine iteF ?_
      walk_at "rd"
      exact k
theorem ok_Canvas_init {C : Addr} (T : Txt K mg) (V0 : CvC K mg C) (c_need_sizes : Cal P w K mg base 2 "need_sizes" spNSz) {f : Addr} {fd : FuncData} (F : Fun K "__init__" "Canvas.__init__" s_Canvas_init f fd) : FnOk P w K mg base (L2.CX P w) 3 f fd ["self", "width", "height"] (spCvI C) := by
  refine fnOk0 F sc_Canvas_init (fun vs H Q E h => ?_) (fun cdv A outer s H vs Q E hr h => ?_)
  · obtain ⟨p, dx, w0, h0, rfl, _⟩ := h
    rfl
  · obtain ⟨p, dx, w0, h0, rfl, hp, F1, k⟩ := h
    have w1 := F1.w1
    have w2 := F1.w2
    have h1 := F1.h1
    have h2 := F1.h2
    refine ⟨_, (pss_cons (ps_expr (pe_cl c_need_sizes hr passL (pa_cons (pv 1) (pa_cons (pv 2) pa_nil))))
  (pss_cons (ps_fld (pv 0) (pv 1) rfl)
  (pss_cons (ps_fld (pv 0) (pv 2) rfl)
  (pss_one (ps_fld (pv 0) (pe_op op_rep (pe_lst (pa_cons (pe_op op_mulS pe_str (pv 1)) pa_nil)) (pv 2)) rfl))))), ?_⟩
    try dsimp only [cxOf, Cx.nox, Cx.wish, List.map]
    walk_at "rd"
    refine ⟨(w0 : Int), (h0 : Int), rfl, by omega, by omega, by omega, by omega, fun H1 s1 => ?_⟩
    have hp1 := s1 _ _ hp
    walk_at "rd"
    refine ⟨p, C, dx, [], rfl, hp1, V0.cl, V0.n1, (by show 0 < 1000; decide), ?_⟩
    walk_at "rd"
    refine ⟨p, C, dx, _, rfl, upd_same, V0.cl, V0.n2, (by show 1 < 1000; decide), ?_⟩
    have K3 : Keep p H1 (upd (upd H1 p (.ins C dx (putF "width" (.int w0) []))) p (.ins C dx (putF "height" (.int h0) (putF "width" (.int w0) [])))) := fun a o e n => by rw [upd_ne n, upd_ne n]; exact e
    have e3 := upd_same (H := upd H1 p (.ins C dx (putF "width" (.int w0) []))) (a := p) (o := .ins C dx (putF "height" (.int h0) (putF "width" (.int w0) [])))
    generalize upd (upd H1 p _) p _ = H3 at *
    walk_at "rd"
    refine ⟨_, (w0 : Int), rfl, rfl, by omega, by omega, by decide +kernel, by decide +kernel, ?_⟩
    rw [row_zero, row_rep, Int.toNat_natCast]
    walk_at "rd"
    refine new_lst (by show 1 ≤ 1000; decide) fun l4 H4 n4 e4 s4 => ?_
    walk_at "rd"
    refine ⟨l4, (h0 : Int), _, rfl, rfl, e4, by omega, by omega, Nat.le_of_lt (small1000 (by show 1 * (h0 : Int).toNat ≤ 1000; omega)), fun l5 n5 => ?_⟩
    rw [Int.toNat_natCast, rep_rows]
    have s5 := s4.trans (Same.new (o := .lst ((plainR w0 h0 0).map rowV)) n5)
    have e5 := upd_same (H := H4) (a := l5) (o := .lst ((plainR w0 h0 0).map rowV))
    have l5p : l5 ≠ p := (ne_of_none (s4 _ _ e3) n5).symm
    generalize upd H4 l5 _ = H5 at *
    walk_at "rd"
    refine ⟨p, C, dx, _, rfl, s5 _ _ e3, V0.cl, V0.n3, ?_, ?_⟩
    · rw [pf_nil, pf_miss f_wh, pf_nil]
      show 2 < 1000
      decide
    · refine k _ ⟨⟨dx, l5, Eq.trans upd_same (congrArg (fun z => some (HO.ins C dx z)) cv_make), by rw [upd_ne l5p]; exact e5⟩, plain_good (by decide)⟩ fun b u e n => ?_
      rw [upd_ne n]
      exact s5 _ _ (K3 _ _ (s1 _ _ e) n)
theorem ok_Canvas_setitem {C CX CB : Addr} (T : Txt K mg) (V0 : CvC K mg C) (c_need_pixel : Cal P w K mg base 3 "need_pixel" (spNPixX K CX)) (c_need_colour : Cal P w K mg base 4 "need_colour" (spNColX K CB)) {f : Addr} {fd : FuncData} (F : Fun K "__setitem__" "Canvas.__setitem__" s_Canvas_setitem f fd) : FnOk P w K mg base (L2.CX P w) 5 f fd ["self", "at", "worth"] (spCvSet K C CX CB) := by
  refine F.okX (P := P) (w := w) (mg := mg) (base := base) sc_Canvas_setitem (fun vs H Q E h => ?_) (fun cdv A outer s H vs Q E hr h => ?_)
  · obtain ⟨p, t, a, b, v, L, w0, h0, rfl, x, F1, ht, h⟩ := h
    rfl
  · have tk : Takes (cxOf (L2.CX P w) P w K mg base ["self", "at", "worth", "x", "y", "lines"] "Canvas.__setitem__" (defScope s_Canvas_setitem) f cdv A outer s H E) (fun cls d _ H => E cls d H) := takes_of rfl rfl rfl rfl
    obtain ⟨p, t, a, b, v, L, w0, h0, rfl, x, F1, ht, h⟩ := h
    have hu := hu_of hr
    refine ⟨_, (pss_cons (ps_asg (pv 1) (pg_tup rfl (pgs_cons (pg_name (i := 3) sc_Canvas_setitem.nd rfl (Or.inl rfl)) (pgs_cons (pg_name (i := 4) sc_Canvas_setitem.nd rfl (Or.inl rfl)) pgs_nil))))
  (pss_cons (ps_expr (pe_cl c_need_pixel hr (passE tk) (pa_cons (pe_fld (pv 0) rfl) (pa_cons (pv 3) (pa_cons (pv 4) pa_nil)))))
  (pss_cons (ps_expr (pe_cl c_need_colour hr (passE tk) (pa_cons (pv 2) pa_nil)))
  (pss_cons (ps_set (i := 5) sc_Canvas_setitem.nd rfl (Or.inl rfl) (pe_callTy call_list_of (by rfl) T.b_list (by decide +kernel) (pa_cons (pe_fld (pv 0) rfl) pa_nil)))
  (pss_cons (ps_asg (pe_joined (PJ.cons (pe_fmt (pe_slice sl_str (pe_ix ix_list (pv 5) (pv 4) (fun _ _ => rfl)) po_none (po_some (pv 3)))) (PJ.cons (pe_fmt (pv 2)) (PJ.cons (pe_fmt (pe_slice sl_str (pe_ix ix_list (pv 5) (pv 4) (fun _ _ => rfl)) (po_some (pe_op op_add (pv 3) pe_int)) po_none)) PJ.nil)))) (pg_sub (pv 5) (pv 4) set_list))
  (pss_one (ps_fld (pv 0) (pv 5) rfl))))))), ?_⟩
    try dsimp only [cxOf, Cx.nox, Cx.wish, List.map]
    obtain ⟨dx, l, hp, hl⟩ := id x.at_
    have G := x.g
    have w2 := F1.w2
    have h2 := F1.h2
    walk_at "rd"
    refine rd_gtup (SqT.of ht) rfl ?_
    walk_at "rd"
    refine rd_fldK hp V0.cl V0.n3 cv_lines ?_
    walk_at "rd"
    rcases h with ⟨hb, kE⟩ | ⟨i, j, rfl, rfl, hi, hj, h⟩
    · exact ⟨l, L, w0, h0, a, b, rfl, .inl (SqL.of hl), G, F1, .inl ⟨hb, kE⟩⟩
    refine ⟨l, L, w0, h0, _, _, rfl, .inl (SqL.of hl), G, F1, .inr ⟨i, j, rfl, rfl, (by
      unfold insideB
      rw [decide_eq_true (show (0 : Int) ≤ j from by omega), decide_eq_true (show (j : Int) < h0 from by omega), decide_eq_true (show (0 : Int) ≤ i from by omega), decide_eq_true (show (i : Int) < w0 from by omega)]
      rfl), ?_⟩⟩
    walk_at "rd"
    rcases h with ⟨hb, kE⟩ | ⟨d, rfl, d0, d9, k⟩
    · exact ⟨v, rfl, .inl ⟨hb, kE⟩⟩
    refine ⟨_, rfl, .inr ⟨d, rfl, d0, d9, ?_⟩⟩
    walk_at "rd"
    refine rd_fldK hp V0.cl V0.n3 cv_lines ?_
    walk_at "rd"
    refine ⟨l, _, rfl, .inl (SqL.of hl), fun m nm => ?_⟩
    have sm := Same.new (o := .lst (L.map rowV)) nm
    have em := upd_same (H := H) (a := m) (o := .lst (L.map rowV))
    have mp : m ≠ p := (ne_of_none hp nm).symm
    have hp1 := sm _ _ hp
    generalize upd H m _ = H1 at *
    obtain ⟨r, er, lr⟩ := good_row G hj
    have hr := List.mem_of_getElem? er
    walk_at "rd"
    refine use_ixW em er ?_
    walk_at "rd"
    refine ⟨_, rfl, _, rfl, row_szl (by omega), ?_⟩
    rw [cut_to _ (by omega)]
    refine .inl ⟨_, rfl, row_szl (by rw [List.length_take]; omega), ?_⟩
    refine ⟨_, rfl, ?_, ?_⟩
    · rw [show Str.empty = rowS [] from by rw [← row_empty]; rfl, row_app]
      exact row_szl (by rw [List.nil_append, List.length_take]; omega)
    rw [show Str.empty = rowS [] from by rw [← row_empty]; rfl, row_app, List.nil_append]
    walk_at "rd"
    refine fmt_int ⟨by omega, by omega⟩ ?_
    rw [row_str d0 (by omega)]
    refine ⟨_, rfl, ?_, ?_⟩
    · rw [row_app]
      exact row_szl (by rw [List.length_append, List.length_take]; show _ + 1 ≤ 200; omega)
    rw [row_app]
    walk_at "rd"
    refine use_ixW em er ?_
    walk_at "rd"
    refine ⟨_, rfl, ?_⟩
    walk_at "rd"
    refine ⟨_, rfl, row_szl (by omega), ?_⟩
    rw [show (i : Int) + 1 = ((i + 1 : Nat) : Int) from by omega, cut_from _ (by omega)]
    refine .inl ⟨_, rfl, row_szl (by rw [List.length_drop]; omega), ?_⟩
    refine ⟨_, rfl, ?_, ?_⟩
    · rw [row_app]
      exact row_szl (by rw [List.length_append, List.length_append, List.length_take, List.length_drop]; show _ + 1 + _ ≤ 200; omega)
    rw [row_app]
    walk_at "rd"
    refine use_setL (j := j) em (by rw [List.length_map]; have := G.h; unfold ixN; rw [if_pos (by omega), if_pos (by omega)]; rfl) ?_
    rw [← List.map_set, ← paint_set er (by omega)]
    walk_at "rd"
    refine ⟨p, C, dx, _, rfl, by rw [upd_ne mp.symm]; exact hp1, V0.cl, V0.n3, (by show 3 < 1000; decide), ?_⟩
    walk_at "rd"
    refine k _ ⟨⟨dx, m, Eq.trans upd_same (congrArg (fun z => some (HO.ins C dx z)) cv_put), by rw [upd_ne mp]; exact upd_same⟩, paint1_good G (by omega) (by show ((j : Int)).toNat < h0; omega)⟩ fun c o e n => ?_
    rw [upd_ne n, upd_ne (ne_of_none e nm)]
    exact sm _ _ e
end
open PySem PySem.Spec PyProof.Rows L2 Hf
section
variable {P : Program} {w : World} {K : PySem.W.Frag} {mg : Str → Option Value} {base : Heap}
theorem ok_Deed_init {CI : Addr} (T : Txt K mg) (hc : Cls K CI) (hd : NoAttr K CI "is_deed") {f : Addr} {fd : FuncData} (F : Fun K "__init__" "Deed.__init__" s_Deed_init f fd) : FnOk P w K mg base (L2.CX P w) 1 f fd ["self"] (spDeedI CI) := by
  refine fnOk0 F sc_Deed_init (fun vs H Q E h => ?_) (fun cdv A outer s H vs Q E hr h => ?_)
  · obtain ⟨p, dx, fs, rfl, _⟩ := h
    rfl
  · obtain ⟨p, dx, fs, rfl, hp, hl, k⟩ := h
    refine ⟨_, (pss_one (ps_fld (pv 0) pe_bl rfl)), ?_⟩
    try dsimp only [cxOf, Cx.nox, Cx.wish, List.map]
    walk_at "rd"
    refine ⟨p, CI, dx, fs, rfl, hp, hc, hd, (by omega), ?_⟩
    exact k
end
open PySem PySem.Spec PyProof.Rows L2 Hf
section
variable {P : Program} {w : World} {K : PySem.W.Frag} {mg : Str → Option Value} {base : Heap}
theorem ok_Pointed_init {f D cc cda : Addr} {kV doc pm ct oc : Value} {an od : Option Addr} {osl : Array (Option Value)} {CI C CB : Addr} (T : Txt K mg) (lk : K.lookup f = some ⟨oc, od, .func (PySem.W.ksFn "__init__" "Pointed.__init__" (defArgs s_Pointed_init) (defBody s_Pointed_init) (defScope s_Pointed_init) .none kV doc pm an (.ref cda) ct cc), osl⟩) (hcd : PySem.W.codeIn K (.ref cda) "Pointed.__init__" = true) (U : SupD P K mg D cc cda) (nC : C ≠ CI) (hc : Cls K CI) (hx : NoAttr K CI "x") (hy : NoAttr K CI "y") (c_need_place : Cal P w K mg base 6 "need_place" (spNeedP K C CB)) (SM : SupMK P w K mg base (L2.CX P w) 1 CI D "__init__" [] (spDeedI CI)) :
    CallK P w K mg base (L2.CX P w) 7 f ["x", "y"] (kwSp 2 [] (spPtI K CI C)) := by
  have S : NdefX.NScope ["self", "x", "y", "rest", "__class__"] ((("self" : Str) :: (["x", "y"] : List Str)) ++ (["rest"] : List Str)) ["__class__"] (defScope s_Pointed_init) := NdefX.nscope_by (by decide +kernel)
  refine callK_of (CX := L2.CX P w) (k := 6) (N := ["self", "x", "y", "rest", "__class__"]) (self := "self") (pr := "rest") (ks1 := ["x", "y"]) (ex := []) (dV := .none) lk hcd S U StX.cxUp (by decide) (by decide) (fun u us1 ws2 h1 h2 => ?_) (fun A outer s H vs Q E hr h => ?_)
  · match us1, ws2, h1, h2 with
    | [_, _], [], _, _ => rfl
  · obtain ⟨p, dx, d, vx, vy, fs, tx, ty, rfl, hp, hl, hd, gx, gy, k⟩ := h
    have hu := hu_of hr
    refine ⟨_, (pw_cons (ps_fld (pv 0) (pe_cl c_need_place hr passL (pa_cons (pv 1) (pa_cons pe_str pa_nil))) rfl) (pw_cons (ps_fld (pv 0) (pe_cl c_need_place hr passL (pa_cons (pv 2) (pa_cons pe_str pa_nil))) rfl) (pw_supR lk S U rfl rfl rfl SM hr passL (pv 3) (by decide) (pw_of pss_nil)))), ?_⟩
    have dp : d ≠ p := fun z => by rw [z, hp] at hd; cases hd
    have ln1 : ∀ {q : Addr}, (putF "x" (.ref q) fs).length ≤ fs.length + 1 := putF_len
    have ln2 : ∀ {q q' : Addr}, (putF "y" (.ref q') (putF "x" (.ref q) fs)).length ≤ fs.length + 2 := fun {q q'} => Nat.le_trans putF_len (Nat.succ_le_succ ln1)
    walk_at "rd"
    refine use_needP gx fun qx H1 px1 s1 => ?_
    have hp1 := s1 _ _ hp
    walk_at "rd"
    refine ⟨p, CI, dx, fs, rfl, hp1, hc, hx, by omega, ?_⟩
    have ku : Keep p H1 (upd H1 p (.ins CI dx (putF "x" (.ref qx) fs))) := Keep.upd
    have gy1 := (gy.same s1).keep nC hp1 ku
    have px2 := px1.keep ku (px1.ne nC hp1)
    have hp2 : (upd H1 p (.ins CI dx (putF "x" (.ref qx) fs))) p = some (.ins CI dx (putF "x" (.ref qx) fs)) := upd_same
    have d2 : (upd H1 p (.ins CI dx (putF "x" (.ref qx) fs))) d = some (.dK (kwK [] [])) := (upd_ne dp).trans (s1 _ _ hd)
    have k2 := (Keep.of (b := p) s1).trans ku
    generalize upd H1 p (.ins CI dx (putF "x" (.ref qx) fs)) = H2 at *
    walk_at "rd"
    refine use_needP gy1 fun qy H3 py3 s3 => ?_
    have hp3 := s3 _ _ hp2
    walk_at "rd"
    refine ⟨p, CI, dx, _, rfl, hp3, hc, hy, Nat.lt_of_le_of_lt ln1 (by omega), ?_⟩
    have ku3 : Keep p H3 (upd H3 p (.ins CI dx (fsP qx qy fs))) := Keep.upd
    have px4 := (px2.same s3).keep ku3 ((px2.same s3).ne nC hp3)
    have py4 := py3.keep ku3 (py3.ne nC hp3)
    have hp4 : (upd H3 p (.ins CI dx (fsP qx qy fs))) p = some (.ins CI dx (fsP qx qy fs)) := upd_same
    have d4 : (upd H3 p (.ins CI dx (fsP qx qy fs))) d = some (.dK (kwK [] [])) := (upd_ne dp).trans (s3 _ _ d2)
    have k4 := k2.trans ((Keep.of (b := p) s3).trans ku3)
    generalize upd H3 p (.ins CI dx (fsP qx qy fs)) = H4 at *
    refine ⟨p, dx, d, _, [], rfl, hp4, rfl, d4, rfl, fun r hr1 => ?_⟩
    have rp : r ≠ p := fun z => by rw [z, hp4] at hr1; cases hr1
    have sm := Same.new (o := .dK (kwK [] [])) hr1
    have hp5 := sm _ _ hp4
    refine ⟨p, dx, _, rfl, hp5, Nat.lt_of_le_of_lt ln2 (by omega), ?_⟩
    exact k qx qy _ (k4.trans ((Keep.of sm).trans Keep.upd)) ((px4.same sm).keep Keep.upd ((px4.same sm).ne nC hp5)) ((py4.same sm).keep Keep.upd ((py4.same sm).ne nC hp5)) upd_same
theorem ok_Boxed_init {f D cc cda : Addr} {kV doc pm ct oc : Value} {an od : Option Addr} {osl : Array (Option Value)} {CI C CX : Addr} (T : Txt K mg) (lk : K.lookup f = some ⟨oc, od, .func (PySem.W.ksFn "__init__" "Boxed.__init__" (defArgs s_Boxed_init) (defBody s_Boxed_init) (defScope s_Boxed_init) .none kV doc pm an (.ref cda) ct cc), osl⟩) (hcd : PySem.W.codeIn K (.ref cda) "Boxed.__init__" = true) (U : SupD P K mg D cc cda) (B0 : BxC K mg CX) (nC : C ≠ CI) (nX : CX ≠ CI) (hc : Cls K CI) (hb : NoAttr K CI "box") (SM : SupMK P w K mg base (L2.CX P w) 7 CI D "__init__" ["x", "y"] (kwSp 2 [] (spPtI K CI C))) :
    CallK P w K mg base (L2.CX P w) 8 f ["box", "x", "y"] (kwSp 1 ["x", "y"] (spBoxdPI K CI C CX)) := by
  have S : NdefX.NScope ["self", "box", "rest", "__class__"] ((("self" : Str) :: (["box"] : List Str)) ++ (["rest"] : List Str)) ["__class__"] (defScope s_Boxed_init) := NdefX.nscope_by (by decide +kernel)
  refine callK_of (CX := L2.CX P w) (k := 7) (N := ["self", "box", "rest", "__class__"]) (self := "self") (pr := "rest") (ks1 := ["box"]) (ex := ["x", "y"]) (dV := .none) lk hcd S U StX.cxUp (by decide) (by decide) (fun u us1 ws2 h1 h2 => ?_) (fun A outer s H vs Q E hr h => ?_)
  · match us1, ws2, h1, h2 with
    | [_], [_, _], _, _ => rfl
  · obtain ⟨p, dx, d, q, vx, vy, fs, t0, t1, t2, t3, tx, ty, rfl, hp, hl, hd, g, gx, gy, k⟩ := h
    have hu := hu_of hr
    refine ⟨_, (pw_cons (ps_if (pt_not (pt_val (pe_callB call_isi (by rfl) T.b_isinstance (by decide +kernel) (pa_cons (pv 1) (pa_cons (pe_glob (v := .ref CX) (by rfl) B0.g rfl) pa_nil))))) pss_never pss_nil) (pw_cons (ps_fld (pv 0) (pv 1) rfl) (pw_supR lk S U rfl rfl rfl SM hr passL (pv 2) (by decide) (pw_of pss_nil)))), ?_⟩
    walk_at "rd"
    refine rd_isi (.own CX) (g.ty B0) kit_self ?_
    walk_at "rd"
    refine iteF ?_
    walk_at "rd"
    refine ⟨p, CI, dx, fs, rfl, hp, hc, hb, by omega, ?_⟩
    have dp : d ≠ p := fun z => by rw [z, hp] at hd; cases hd
    have ln := putF_len (f := "box") (v := .ref q) (fs := fs)
    have ku : Keep p H (upd H p (.ins CI dx (putF "box" (.ref q) fs))) := Keep.upd
    have gx1 := gx.keep nC hp ku
    have gy1 := gy.keep nC hp ku
    refine ⟨p, dx, d, _, [vx, vy], rfl, upd_same, rfl, (upd_ne dp).trans hd, rfl, fun r hr1 => ?_⟩
    have rp : r ≠ p := fun z => by rw [z, upd_same] at hr1; cases hr1
    have sm1 := Same.new (o := .dK (kwK ["x", "y"] [vx, vy])) hr1
    refine ⟨.ref p, [vx, vy], [], rfl, rfl, rfl, fun r2 hr2 => ?_⟩
    have sm2 := Same.new (o := .dK (kwK [] [])) hr2
    have S := sm1.trans sm2
    refine ⟨p, dx, r2, vx, vy, _, tx, ty, rfl, S _ _ upd_same, by omega, upd_same, gx1.same S, gy1.same S, fun qx qy H' kp px py e' => ?_⟩
    exact k qx qy H' (ku.trans ((Keep.of S).trans kp)) px py e'
theorem ok_Copy_init {f D cc cda : Addr} {dV kV doc pm ct oc : Value} {an od : Option Addr} {osl : Array (Option Value)} {CI C CX : Addr} (T : Txt K mg) (lk : K.lookup f = some ⟨oc, od, .func (PySem.W.ksFn "__init__" "Copy.__init__" (defArgs s_Copy_init) (defBody s_Copy_init) (defScope s_Copy_init) dV kV doc pm an (.ref cda) ct cc), osl⟩) (hcd : PySem.W.codeIn K (.ref cda) "Copy.__init__" = true) (U : SupD P K mg D cc cda) (SM : SupMK P w K mg base (L2.CX P w) 8 CI D "__init__" ["box", "x", "y"] (kwSp 1 ["x", "y"] (spBoxdPI K CI C CX))) :
    FnOk P w K mg base (L2.CX P w) 9 f (PySem.W.ksFn "__init__" "Copy.__init__" (defArgs s_Copy_init) (defBody s_Copy_init) (defScope s_Copy_init) dV kV doc pm an (.ref cda) ct cc) ["self", "box", "x", "y"] (spCopyI K CI C CX) := by
  have S : NdefX.NScope ["self", "box", "x", "y", "__class__"] ["self", "box", "x", "y"] ["__class__"] (defScope s_Copy_init) := NdefX.nscope_by (by decide +kernel)
  refine fnW_of (CX := L2.CX P w) (k := 8) (N := ["self", "box", "x", "y", "__class__"]) lk hcd S U (fun vs H Q E h => ?_) (fun A outer s H vs Q E hr h => ?_)
  · obtain ⟨p, dx, q, vx, vy, t0, t1, t2, t3, tx, ty, rfl, hp, g, gx, gy, k⟩ := h
    rfl
  · obtain ⟨p, dx, q, vx, vy, t0, t1, t2, t3, tx, ty, rfl, hp, g, gx, gy, k⟩ := h
    have hu := hu_of hr
    refine ⟨_, (pw_supK lk S U rfl rfl rfl SM hr passL (pk_cons (pv 1) (pk_cons (pv 2) (pk_cons (pv 3) pk_nil))) (pw_of pss_nil)), ?_⟩
    refine ⟨p, dx, [], rfl, hp, ?_⟩
    walk_at "rd"
    refine ⟨rfl, .ref p, [.ref q], [vx, vy], rfl, rfl, rfl, fun r hr1 => ?_⟩
    have sm := Same.new (o := .dK (kwK ["x", "y"] [vx, vy])) hr1
    refine ⟨p, dx, r, q, vx, vy, [], t0, t1, t2, t3, tx, ty, rfl, sm _ _ hp, by decide, upd_same, g.same sm, gx.same sm, gy.same sm, fun qx qy H' kp px py e' => ?_⟩
    rw [cp_make] at e'
    exact k qx qy H' ((Keep.of sm).trans kp) px py e'
end
open PySem PySem.Spec PyProof.Rows L2 Hf
section
variable {P : Program} {w : World} {K : PySem.W.Frag} {mg : Str → Option Value} {base : Heap}
theorem sc_pixels_in : GScope ["box", "width", "height", "x0", "x1", "y0", "y1", "y", "x"] ["box", "width", "height"] (defScope s_pixels_in) := ⟨rfl, rfl, rfl, by decide +kernel, rfl, by decide +kernel, by decide +kernel⟩
theorem ok_pixels_in {f : Addr} {kV doc pm cdv ct oc : Value} {an od : Option Addr} {osl : Array (Option Value)} {C CX CS : Addr} (T : Txt K mg) (B0 : BxC K mg CX) (m_bcall : Met P w K mg base 5 CX "__call__" (spBoxAt K C CX CS)) (fib : ∀ g, Opr K CX "__call__" g → PySem.W.fnIn K g = true)
    (lk : K.lookup f = some ⟨oc, od, .func (PySem.W.fnOf "pixels_in" "pixels_in" (defArgs s_pixels_in) (defBody s_pixels_in) (defScope s_pixels_in) .none kV doc pm an cdv ct), osl⟩) (hcd : PySem.W.codeIn K cdv "pixels_in" = true) :
    GFn P w K mg base 6 f (PySem.W.fnOf "pixels_in" "pixels_in" (defArgs s_pixels_in) (defBody s_pixels_in) (defScope s_pixels_in) .none kV doc pm an cdv ct) ["box", "width", "height"] (spPixG C CX) := by
  refine gfn_of (k := 5) (N := ["box", "width", "height", "x0", "x1", "y0", "y1", "y", "x"]) lk hcd sc_pixels_in (fun vs H Q E h => ?_) (fun A outer s H vs Q E pn hr h => ?_)
  · obtain ⟨q, t0, t1, t2, t3, w0, h0, rfl, _⟩ := h
    rfl
  · obtain ⟨q, t0, t1, t2, t3, w0, h0, rfl, g, F, s0, s1, s2, s3, k⟩ := h
    have hu := hu_of hr
    refine ⟨_, (gss_cons (gs_ps (ps_asg (pe_callM (pv 0) m_bcall fib hr passL (pa_cons (pv 1) (pa_cons (pv 2) pa_nil))) (pg_tup rfl (pgs_cons (pg_name (i := 3) sc_pixels_in.nd rfl (Or.inl rfl)) (pgs_cons (pg_name (i := 4) sc_pixels_in.nd rfl (Or.inl rfl)) (pgs_cons (pg_name (i := 5) sc_pixels_in.nd rfl (Or.inl rfl)) (pgs_cons (pg_name (i := 6) sc_pixels_in.nd rfl (Or.inl rfl)) pgs_nil)))))))
  (gss_cons (gs_for owns_gcx rfl (pi_rangeX rfl T.b_range (pa_cons (pe_callB (call_max2 rfl) (by rfl) T.b_max (by decide +kernel) (pa_cons pe_int (pa_cons (pe_callTy call_int1 (by rfl) T.b_int (by decide +kernel) (pa_cons (pv 5) pa_nil)) pa_nil))) (pa_cons (pe_callB (call_min2 rfl) (by rfl) T.b_min (by decide +kernel) (pa_cons (pv 2) (pa_cons (pe_callTy call_int1 (by rfl) T.b_int (by decide +kernel) (pa_cons (pv 6) pa_nil)) pa_nil))) pa_nil))) (pg_name (i := 7) sc_pixels_in.nd rfl (Or.inl rfl))
  (gss_cons (gs_for owns_gcx rfl (pi_rangeX rfl T.b_range (pa_cons (pe_callB (call_max2 rfl) (by rfl) T.b_max (by decide +kernel) (pa_cons pe_int (pa_cons (pe_callTy call_int1 (by rfl) T.b_int (by decide +kernel) (pa_cons (pv 3) pa_nil)) pa_nil))) (pa_cons (pe_callB (call_min2 rfl) (by rfl) T.b_min (by decide +kernel) (pa_cons (pv 1) (pa_cons (pe_callTy call_int1 (by rfl) T.b_int (by decide +kernel) (pa_cons (pv 4) pa_nil)) pa_nil))) pa_nil))) (pg_name (i := 8) sc_pixels_in.nd rfl (Or.inl rfl))
  (gss_cons (gs_yield (pe_tup (pa_cons (pv 8) (pa_cons (pv 7) pa_nil))))
  gss_nil))
  gss_nil))
  gss_nil)), ?_⟩
    refine rd_gThen (rd_gPlain ?_)
    walk_at "rd"
    obtain ⟨dx, p0, p1, p2, p3, hp, _⟩ := id g
    have w1 := F.w1
    have w2 := F.w2
    have h1 := F.h1
    have h2 := F.h2
    have p62 : (2 : Int) ^ 62 = 4611686018427387904 := by decide
    refine ⟨q, rfl, ?_⟩
    walk_at "rd"
    refine ⟨⟨dx, _, hp⟩, q, t0, t1, t2, t3, _, _, rfl, g, .inr ⟨w0, rfl, by omega, .inr ⟨h0, rfl, by omega, ⟨by omega, by omega⟩, ⟨by omega, by omega⟩, s0, s1, s2, s3, fun t H1 e1 sm1 => ?_⟩⟩⟩
    obtain ⟨x0, x1, y0, y1, eb⟩ : ∃ x0 x1 y0 y1, bxV t0 t1 t2 t3 (w0 : Int) (h0 : Int) = [x0, x1, y0, y1] := ⟨_, _, _, _, rfl⟩
    rw [eb] at e1
    replace e1 : H1 t = some (.tup [.int x0, .int x1, .int y0, .int y1]) := e1
    have k := k _ _ _ _ eb
    refine rd_gtup (SqT.of e1) rfl ?_
    walk_at "rd"
    dsimp only [GEnds.at]
    refine rd_gThen (rd_gFor ?_)
    walk_at "rd"
    refine .inl ⟨_, rfl, ?_⟩
    walk_at "rd"
    refine ⟨_, _, rfl, ?_⟩
    walk_at "rd"
    refine .inl ⟨_, rfl, ?_⟩
    walk_at "rd"
    refine ⟨_, _, rfl, ?_⟩
    rw [show (if y0 > 0 then y0 else 0) = max 0 y0 from by split <;> omega, show (if y1 < (h0 : Int) then y1 else (h0 : Int)) = min (h0 : Int) y1 from by split <;> omega]
    refine ⟨_, _, rfl, by omega, ?_⟩
    obtain ⟨X, eX⟩ : ∃ X : Int, X = max 0 x0 := ⟨_, rfl⟩
    obtain ⟨Y, eY⟩ : ∃ Y : Int, Y = max 0 y0 := ⟨_, rfl⟩
    obtain ⟨n, en⟩ : ∃ n : Nat, n = (min (w0 : Int) x1 - X).toNat := ⟨_, rfl⟩
    obtain ⟨m, em⟩ : ∃ m : Nat, m = (min (h0 : Int) y1 - Y).toNat := ⟨_, rfl⟩
    have n2 : n ≤ 200 := by omega
    have m2 : m ≤ 200 := by omega
    have eP : pixIn x0 x1 y0 y1 w0 h0 = boxP X n Y m := by unfold pixIn; rw [en, em, eX, eY]
    rw [← eY, ← em]
    refine gfor_range (fun i ys σ H' => ∃ (ts : List Addr) (v7 v8 : Option V), ys = ts.map V.ref ∧ F2 (TupP H') ts (boxP X n Y i) ∧ Same H H' ∧ σ = [some (.ref q), some (.int w0), some (.int h0), some (.int x0), some (.int x1), some (.int y0), some (.int y1), v7, v8]) ⟨[], none, none, rfl, .nil, sm1, rfl⟩ ?_ ?_
    · rintro i ys σ H2 hi ⟨ts, v7, v8, rfl, f2, sm2, rfl⟩
      refine rd_gname ?_
      refine rd_gThen (rd_gFor ?_)
      walk_at "rd"
      refine .inl ⟨_, rfl, ?_⟩
      walk_at "rd"
      refine ⟨_, _, rfl, ?_⟩
      walk_at "rd"
      refine .inl ⟨_, rfl, ?_⟩
      walk_at "rd"
      refine ⟨_, _, rfl, ?_⟩
      rw [show (if x0 > 0 then x0 else 0) = max 0 x0 from by split <;> omega, show (if x1 < (w0 : Int) then x1 else (w0 : Int)) = min (w0 : Int) x1 from by split <;> omega]
      refine ⟨_, _, rfl, by omega, ?_⟩
      rw [← eX, ← en]
      have l2 : ts.length = i * n := f2.len.trans boxP_len
      have l3 : i * n ≤ 200 * 200 := Nat.mul_le_mul (by omega) n2
      refine gfor_range (fun j ys σ H' => ∃ (ts : List Addr) (v8 : Option V), ys = ts.map V.ref ∧ F2 (TupP H') ts (boxP X n Y i ++ rowP X j (Y + i)) ∧ Same H H' ∧ σ = [some (.ref q), some (.int w0), some (.int h0), some (.int x0), some (.int x1), some (.int y0), some (.int y1), some (.int (Y + i)), v8]) ⟨ts, v8, rfl, by rw [show rowP X 0 (Y + i) = [] from rfl, List.append_nil]; exact f2, sm2, rfl⟩ ?_ ?_
      · rintro j ys σ H3 hj ⟨us, v8, rfl, f3, sm3, rfl⟩
        refine rd_gname ?_
        have l4 : us.length = i * n + j := f3.len.trans (by rw [List.length_append, boxP_len, rowP_len])
        refine rd_gThen (rd_gYield (by rw [List.length_map, l4]; show _ < 2 ^ 24; omega) ?_)
        walk_at "rd"
        refine new_tup (by show 2 ≤ 1000; decide) fun t4 H4 n4 e4 s4 => ?_
        exact ⟨us ++ [t4], _, by rw [List.map_append]; rfl, by rw [rowP_succ, ← List.append_assoc]; exact (tups_same f3 s4).append (.cons e4 .nil), sm3.trans s4, rfl⟩
      · rintro ys σ H3 ⟨us, v8, rfl, f3, sm3, rfl⟩
        exact ⟨us, _, v8, rfl, by rw [boxP_succ]; exact f3, sm3, rfl⟩
    · rintro ys σ H2 ⟨ts, v7, v8, rfl, f2, sm2, rfl⟩
      exact k ts H2 (by rw [eP]; exact f2) sm2
end
open PySem PySem.Spec PyProof.Rows L2 Hf
section
variable {P : Program} {w : World} {K : PySem.W.Frag} {mg : Str → Option Value} {base : Heap}
theorem ok_is_pixel (T : Txt K mg) (D : DefAt K mg "is_pixel" s_is_pixel ["width", "height", "x", "y"]) : Cal P w K mg base 1 "is_pixel" spIsPx := by
  obtain ⟨f, fd, hm, F, b⟩ := D
  refine ⟨f, fnR0 F b sc_is_pixel (fun vs H Q E h => ?_) (fun cdv A outer s H vs Q E hr h => ?_), hm, F.kp⟩
  · obtain ⟨w0, h0, x, y, rfl, k⟩ := h
    rfl
  · obtain ⟨w0, h0, x, y, rfl, k⟩ := h
    have hu := hu_of hr
    refine ⟨_, (pss_one (ps_ret (pe_and (pe_chain op_le op_lt pe_int (pv 2) (pv 0)) (pe_one (pe_chain op_le op_lt pe_int (pv 3) (pv 1)))))), ?_⟩
    try dsimp only [cxOf, Cx.nox, Cx.wish, List.map]
    have kF : ∀ {b : Bool}, insideB w0 h0 x y = b → Q (.bl b) H := fun {b} e => by rw [← e]; exact k
    have nf : ¬ (0 ≤ x ∧ x < w0 ∧ 0 ≤ y ∧ y < h0) → Q (.bl false) H := fun n => kF (by
      cases c : insideB w0 h0 x y with
      | true => exact absurd (ins_iff.mp c) n
      | false => rfl)
    walk_at "rd"
    refine ch_bl (fun c1 => ?_) (fun c1 => ?_)
    rotate_left
    · have c1 := of_decide_eq_false c1
      exact ⟨_, rfl, iteF (nf (by omega))⟩
    have c1 := of_decide_eq_true c1
    walk_at "rd"
    refine ite_split (fun c2 => ?_) (fun c2 => ?_)
    rotate_left
    · have c2 := of_decide_eq_false c2
      exact nf (by omega)
    have c2 := of_decide_eq_true c2
    walk_at "rd"
    refine ch_bl (fun c3 => ?_) (fun c3 => ?_)
    rotate_left
    · have c3 := of_decide_eq_false c3
      exact nf (by omega)
    have c3 := of_decide_eq_true c3
    walk_at "rd"
    refine kF ?_
    cases c : decide (y < (h0 : Int)) with
    | true =>
      have c := of_decide_eq_true c
      exact ins_iff.mpr (by omega)
    | false =>
      have c := of_decide_eq_false c
      cases d : insideB w0 h0 x y with
      | true =>
        have := ins_iff.mp d
        omega
      | false => rfl
theorem ok_Canvas_picture {C CP : Addr} (T : Txt K mg) (V0 : CvC K mg C) (M_Picture : Mak P w K mg base 3 "Picture" CP (spPicA CP)) {f : Addr} {fd : FuncData} (F : Fun K "picture" "Canvas.picture" s_Canvas_picture f fd) : FnOk P w K mg base (L2.CX P w) 5 f fd ["self"] (spShown C CP) := by
  refine fnOk0 F sc_Canvas_picture (fun vs H Q E h => ?_) (fun cdv A outer s H vs Q E hr h => ?_)
  · obtain ⟨p, L, w0, h0, rfl, x, F, k⟩ := h
    rfl
  · obtain ⟨p, L, w0, h0, rfl, x, F, k⟩ := h
    have hu := hu_of hr
    refine ⟨_, (pss_one (ps_ret (pe_ma M_Picture hr passL (pa_cons (pe_fld (pv 0) rfl) pa_nil)))), ?_⟩
    try dsimp only [cxOf, Cx.nox, Cx.wish, List.map]
    obtain ⟨dx, l, hp, hl⟩ := id x.at_
    walk_at "rd"
    refine rd_fldK hp V0.cl V0.n3 cv_lines ?_
    walk_at "rd"
    refine use_picA (.inl hl) x.g F fun q H3 n3 g3 s3 => ?_
    exact k q H3 n3 g3 s3
end
open PySem PySem.Spec PyProof.Rows L2 Hf
section
variable {P : Program} {w : World} {K : PySem.W.Frag} {mg : Str → Option Value} {base : Heap}
theorem ok_Pointed_point {C CI CS CV : Addr} (T : Txt K mg) (V0 : CvC K mg CV) (hcl : Cls K CI) (hx : NoAttr K CI "x") (hy : NoAttr K CI "y") (m_pcall : Met P w K mg base 3 C "__call__" (spPlAtX K C CS)) (fip : ∀ g, Opr K C "__call__" g → PySem.W.fnIn K g = true) (D : MetAt K CI "point" "Pointed.point" s_Pointed_point ["self", "canvas"]) : Met P w K mg base 5 CI "point" (spPoint C CI CV) := by
  obtain ⟨f, fd, hm, F, b⟩ := D
  refine ⟨f, fnR0 F b sc_Pointed_point (fun vs H Q E h => ?_) (fun cdv A outer s H vs Q E hr h => ?_), hm⟩
  · obtain ⟨p, c, dx, qx, qy, fs, tx, ty, L, w0, h0, rfl, hp, lx, ly, gx, gy, x, F, sx, sy, k⟩ := h
    rfl
  · obtain ⟨p, c, dx, qx, qy, fs, tx, ty, L, w0, h0, rfl, hp, lx, ly, gx, gy, x, F, sx, sy, k⟩ := h
    have hu := hu_of hr
    refine ⟨_, (pss_one (ps_ret (pe_tup (pa_cons (pe_callF (pv 0) m_pcall fip hr passL (pa_cons (pe_fld (pv 1) rfl) pa_nil)) (pa_cons (pe_callF (pv 0) m_pcall fip hr passL (pa_cons (pe_fld (pv 1) rfl) pa_nil)) pa_nil))))), ?_⟩
    try dsimp only [cxOf, Cx.nox, Cx.wish, List.map]
    have w1 := F.w1
    have w2 := F.w2
    have h1 := F.h1
    have h2 := F.h2
    obtain ⟨dc, l, hc, hl⟩ := id x.at_
    obtain ⟨ex, zx⟩ := id gx
    obtain ⟨ey, zy⟩ := id gy
    walk_at "rd"
    refine rd_callF ?_
    walk_at "rd"
    refine ⟨p, CI, dx, _, qx, rfl, hp, hcl, hx, lx, ?_⟩
    walk_at "rd"
    refine rd_fldK hc V0.cl V0.n1 cv_width ?_
    walk_at "rd"
    refine ⟨⟨ex, _, zx⟩, qx, tx.1, tx.2.1, tx.2.2, _, rfl, gx, .inr ⟨w0, rfl, by omega, sx.1, sx.2, ⟨by omega, by omega⟩, ?_⟩⟩
    walk_at "rd"
    refine rd_callF ?_
    walk_at "rd"
    refine ⟨p, CI, dx, _, qy, rfl, hp, hcl, hy, ly, ?_⟩
    walk_at "rd"
    refine rd_fldK hc V0.cl V0.n2 cv_height ?_
    walk_at "rd"
    refine ⟨⟨ey, _, zy⟩, qy, ty.1, ty.2.1, ty.2.2, _, rfl, gy, .inr ⟨h0, rfl, by omega, sy.1, sy.2, ⟨by omega, by omega⟩, ?_⟩⟩
    walk_at "rd"
    exact new_tup (by show 2 ≤ 1000; decide) fun t J n e s => k t J e s
end
open PySem PySem.Spec PyProof.Rows L2 Hf
section
variable {P : Program} {w : World} {K : PySem.W.Frag} {mg : Str → Option Value} {base : Heap}
theorem ok_Copy_on {C CX CS CB CE CO CP CV : Addr} (T : Txt K mg) (V0 : CvC K mg CV) (D0 : DfC K CO "box" "x" "y" "is_deed") (m_bcall : Met P w K mg base 5 CX "__call__" (spBoxAt K C CX CS)) (fib : ∀ g, Opr K CX "__call__" g → PySem.W.fnIn K g = true) (c_pixels : CalGen P w K mg base 6 "pixels_in" ["box", "width", "height"] (spPixG C CX)) (c_is_pixel : Cal P w K mg base 1 "is_pixel" spIsPx) (m_set : Met P w K mg base 5 CV "__setitem__" (spCvSet K CV CE CB)) (nsq : PySem.W.noSeq K CV = true) (m_get : MetF P w K mg base 4 CP "__getitem__" (spGet CP)) (m_pict : Met P w K mg base 5 CV "picture" (spShown CV CP)) (m_point : Met P w K mg base 5 CO "point" (spPoint C CO CV)) {f : Addr} {fd : FuncData} (F : Fun K "on" "Copy.on" s_Copy_on f fd) : FnOk P w K mg base (L2.CX P w) 10 f fd ["self", "canvas"] (spCopyOn C CX CO CV) := by
  refine fnOk0 F sc_Copy_on (fun vs H Q E h => ?_) (fun cdv A outer s H vs Q E hr h => ?_)
  · obtain ⟨p, c, t0, t1, t2, t3, tx, ty, L, w0, h0, rfl, g, x, F, s0, s1, s2, s3, sx, sy, k⟩ := h
    rfl
  · obtain ⟨p, c, t0, t1, t2, t3, tx, ty, L, w0, h0, rfl, g, x, F, s0, s1, s2, s3, sx, sy, k⟩ := h
    have hu := hu_of hr
    refine ⟨_, (pss_cons (ps_asg (pe_callF (pv 0) m_bcall fib hr passL (pa_cons (pe_fld (pv 1) rfl) (pa_cons (pe_fld (pv 1) rfl) pa_nil))) (pg_tup rfl (pgs_cons (pg_name (i := 2) sc_Copy_on.nd rfl (Or.inl rfl)) (pgs_cons (pg_name (i := 3) sc_Copy_on.nd rfl (Or.inl rfl)) (pgs_cons (pg_name (i := 4) sc_Copy_on.nd rfl (Or.inl rfl)) (pgs_cons (pg_name (i := 5) sc_Copy_on.nd rfl (Or.inl rfl)) pgs_nil))))))
  (pss_cons (ps_asg (pe_me (pv 0) D0.cl m_point hr passL (pa_cons (pv 1) pa_nil)) (pg_tup rfl (pgs_cons (pg_name (i := 6) sc_Copy_on.nd rfl (Or.inl rfl)) (pgs_cons (pg_name (i := 7) sc_Copy_on.nd rfl (Or.inl rfl)) pgs_nil))))
  (pss_cons (ps_set (i := 8) sc_Copy_on.nd rfl (Or.inl rfl) (pe_me0 (pv 1) V0.cl m_pict hr passL))
  (pss_cons (ps_set (i := 9) sc_Copy_on.nd rfl (Or.inl rfl) (pe_listC c_pixels hr T.b_list (by decide +kernel) (pa_cons (pe_fld (pv 0) rfl) (pa_cons (pe_fld (pv 1) rfl) (pa_cons (pe_fld (pv 1) rfl) pa_nil)))))
  (pss_one (ps_for PassesOwn.never rfl (pi_list (pv 9)) (pg_tup rfl (pgs_cons (pg_name (i := 10) sc_Copy_on.nd rfl (Or.inl rfl)) (pgs_cons (pg_name (i := 11) sc_Copy_on.nd rfl (Or.inl rfl)) pgs_nil)))
  (pss_one (ps_if (pt_val (pe_cl c_is_pixel hr passL (pa_cons (pe_fld (pv 1) rfl) (pa_cons (pe_fld (pv 1) rfl) (pa_cons (pe_op op_sub (pe_op op_add (pv 10) (pv 6)) (pv 2)) (pa_cons (pe_op op_sub (pe_op op_add (pv 11) (pv 7)) (pv 4)) pa_nil)))))) (pss_one (ps_asg (pe_getM m_get hr passL (pv 8) (pe_tup (pa_cons (pv 10) (pa_cons (pv 11) pa_nil)))) (pg_sub (pv 1) (pe_tup (pa_cons (pe_op op_sub (pe_op op_add (pv 10) (pv 6)) (pv 2)) (pa_cons (pe_op op_sub (pe_op op_add (pv 11) (pv 7)) (pv 4)) pa_nil))) (set_own nsq m_set hr passL)))) pss_nil)))))))), ?_⟩
    try dsimp only [cxOf, Cx.nox, Cx.wish, List.map]
    obtain ⟨dx, q, qx, qy, hp, bx, gx, gy⟩ := id g.at_
    obtain ⟨dc, l, hc, hl⟩ := id x.at_
    obtain ⟨db, p0, p1, p2, p3, hb, _⟩ := id bx
    have w1 := F.w1
    have w2 := F.w2
    have h1 := F.h1
    have h2 := F.h2
    have G := x.g
    walk_at "rd"
    refine rd_callF ?_
    walk_at "rd"
    refine ⟨p, CO, dx, _, q, rfl, hp, D0.cl, D0.n1, cp_box, ?_⟩
    walk_at "rd"
    refine rd_fldK hc V0.cl V0.n1 cv_width ?_
    walk_at "rd"
    refine rd_fldK hc V0.cl V0.n2 cv_height ?_
    walk_at "rd"
    refine ⟨⟨db, _, hb⟩, q, t0, t1, t2, t3, _, _, rfl, bx, .inr ⟨w0, rfl, by omega, .inr ⟨h0, rfl, by omega, ⟨by omega, by omega⟩, ⟨by omega, by omega⟩, s0, s1, s2, s3, fun t H1 e1 sm1 => ?_⟩⟩⟩
    obtain ⟨x0, x1, y0, y1, eb⟩ : ∃ x0 x1 y0 y1, bxV t0 t1 t2 t3 (w0 : Int) (h0 : Int) = [x0, x1, y0, y1] := ⟨_, _, _, _, rfl⟩
    rw [eb] at e1
    replace e1 : H1 t = some (.tup [.int x0, .int x1, .int y0, .int y1]) := e1
    have k := k _ _ _ _ eb
    refine rd_gtup (SqT.of e1) rfl ?_
    walk_at "rd"
    refine ⟨p, dx, _, rfl, sm1 _ _ hp, cp_no (by decide +kernel) (by decide +kernel) (by decide +kernel) (by decide +kernel), ?_⟩
    walk_at "rd"
    refine ⟨p, c, dx, qx, qy, _, tx, ty, L, w0, h0, rfl, sm1 _ _ hp, cp_x, cp_y, gx.same sm1, gy.same sm1, x.same sm1, F, sx, sy, fun t' H2 e2 sm2 => ?_⟩
    obtain ⟨X, eX⟩ : ∃ X, plv tx.1 tx.2.1 tx.2.2 w0 = X := ⟨_, rfl⟩
    obtain ⟨Y, eY⟩ : ∃ Y, plv ty.1 ty.2.1 ty.2.2 h0 = Y := ⟨_, rfl⟩
    rw [eX, eY] at e2 k
    refine rd_gtup (SqT.of e2) rfl ?_
    have S2 := sm1.trans sm2
    walk_at "rd"
    refine cv_m (x.same S2) (by decide +kernel) (by decide +kernel) (by decide +kernel) ?_
    walk_at "rd"
    refine ⟨c, L, w0, h0, rfl, x.same S2, F, fun el H3 nel pe sm3 => ?_⟩
    have S3 := S2.trans sm3
    walk_at "rd"
    unfold tListG tCallG
    walk_at "rd"
    refine rd_fldK (S3 _ _ hp) D0.cl D0.n1 cp_box ?_
    walk_at "rd"
    refine rd_fldK (S3 _ _ hc) V0.cl V0.n1 cv_width ?_
    walk_at "rd"
    refine rd_fldK (S3 _ _ hc) V0.cl V0.n2 cv_height ?_
    walk_at "rd"
    refine ⟨q, t0, t1, t2, t3, w0, h0, rfl, bx.same S3, F, s0, s1, s2, s3, fun z0 z1 z2 z3 ez ts H4 f4 sm4 u nu => ?_⟩
    rw [eb] at ez
    obtain ⟨rfl, rfl, rfl, rfl⟩ : x0 = z0 ∧ x1 = z1 ∧ y0 = z2 ∧ y1 = z3 := by simpa using ez
    walk_at "rd"
    have smu := Same.new (H := H4) (o := .lst (ts.map V.ref)) nu
    have eu := upd_same (H := H4) (a := u) (o := .lst (ts.map V.ref))
    have f5 := tups_same f4 smu
    have S := S3.trans (sm4.trans smu)
    have pe5 := pe.same (sm4.trans smu)
    generalize upd H4 u _ = H5 at *
    have hc5 := S _ _ hc
    have x5 := x.same S
    have uc : u ≠ c := fun z => by rw [z, hc5] at eu; cases eu
    clear e1 e2 sm1 sm2 sm3 sm4 smu S2 S3 f4 pe bx gx gy nel nu
    refine ⟨u, rfl, ⟨_, SqL.of eu⟩, for_list (K := K) (a := u) (xs := ts.map V.ref) (fun m σ H' => (∃ v10 v11 : Option V, σ = [some (.ref p), some (.ref c), some (.int x0), some (.int x1), some (.int y0), some (.int y1), some (.int X), some (.int Y), some (.ref el), some (.ref u), v10, v11]) ∧ CvG CV H' c w0 h0 (paintV L (shL (X - x0) (Y - y0) w0 h0 ((pixIn x0 x1 y0 y1 w0 h0).take m)) (shV L (X - x0) (Y - y0))) ∧ Keep c H5 H') ⟨⟨none, none, rfl⟩, x5, Keep.refl⟩ ?_ ?_ ?_⟩
    · rintro m σ A1 _ ⟨_, _, K1⟩
      exact SqL.of (K1 _ _ eu uc)
    · rintro m xv σ A2 hv ⟨⟨v10, v11, rfl⟩, xA, K2⟩
      obtain ⟨tq, htq, rfl⟩ := map_get hv
      obtain ⟨q', eq, Tq⟩ := f5.get htq
      have iq := pixIn_mem.mp (List.mem_of_getElem? eq)
      have e4 : (pixIn x0 x1 y0 y1 w0 h0).take (m + 1) = (pixIn x0 x1 y0 y1 w0 h0).take m ++ [q'] := by
        rw [List.take_add_one, eq]
        rfl
      obtain ⟨a, b⟩ := q'
      obtain ⟨qa, rfl⟩ : ∃ qa : Nat, a = (qa : Int) := ⟨a.toNat, by have := iq.1; simp only at this; omega⟩
      obtain ⟨qb, rfl⟩ : ∃ qb : Nat, b = (qb : Int) := ⟨b.toNat, by have := iq.2.2.1; simp only at this; omega⟩
      simp only at iq
      have tqc : tq ≠ c := fun z => by have Tq : H5 tq = _ := Tq; rw [z, hc5] at Tq; cases Tq
      have Tq2 : A2 tq = some (.tup [.int (qa : Int), .int (qb : Int)]) := K2 _ _ Tq tqc
      obtain ⟨dcA, lA, hcA, hlA⟩ := id xA.at_
      refine rd_gtup (SqT.of Tq2) rfl ?_
      walk_at "rd"
      refine rd_fldK hcA V0.cl V0.n1 cv_width ?_
      walk_at "rd"
      refine rd_fldK hcA V0.cl V0.n2 cv_height ?_
      walk_at "rd"
      refine ⟨w0, h0, _, _, rfl, _, rfl, ?_⟩
      rw [show (qa : Int) + X - x0 = qa + (X - x0) from by omega, show (qb : Int) + Y - y0 = qb + (Y - y0) from by omega]
      refine ite_split (fun hr => ?_) (fun hr => ?_)
      · have hr1 := ins_iff.mp hr
        have peA := PicG.cv x5 pe5 K2
        obtain ⟨row, erow, lrow⟩ := good_row G (j := qb) (by omega)
        obtain ⟨dd, ed⟩ : ∃ dd, row[qa]? = some dd := ⟨row[qa]'(by omega), List.getElem?_eq_getElem _⟩
        have d10 := G.d row (List.mem_of_getElem? erow) dd (List.mem_of_getElem? ed)
        walk_at "rd"
        refine new_tup (by show 2 ≤ 1000; decide) fun t6 H6 n6 e6 s6 => ?_
        refine use_get (peA.same s6) F e6 (by omega) (by omega) erow ed ?_
        walk_at "rd"
        refine new_tup (by show 2 ≤ 1000; decide) fun t7 H7 n7 e7 s7 => ?_
        have s67 := s6.trans s7
        rw [show (qa : Int) + X - x0 = qa + (X - x0) from by omega, show (qb : Int) + Y - y0 = qb + (Y - y0) from by omega] at e7
        obtain ⟨ia, ea⟩ : ∃ ia : Nat, (qa : Int) + (X - x0) = ia := ⟨((qa : Int) + (X - x0)).toNat, by omega⟩
        obtain ⟨ib, eib⟩ : ∃ ib : Nat, (qb : Int) + (Y - y0) = ib := ⟨((qb : Int) + (Y - y0)).toNat, by omega⟩
        have e8 := e7
        rw [ea, eib] at e8
        refine use_cvSet (i := ia) (j := ib) (xA.same s67) F e8 (by omega) (by omega) (by omega) (by omega) fun H8 g8 k8 => ?_
        refine ⟨⟨_, _, rfl⟩, ?_, K2.trans ((Keep.of s67).trans k8)⟩
        rw [e4, shL_snoc, if_pos hr, paintV_snoc, shV_at, ea, eib]
        rw [show px L qb qa = dd from by unfold px; rw [List.getD_eq_getElem?_getD (l := L), erow]; show row.getD qa 0 = dd; rw [List.getD_eq_getElem?_getD, ed]; rfl]
        exact g8
      · walk_at "rd"
        refine ⟨⟨_, _, rfl⟩, ?_, K2⟩
        rw [e4, shL_snoc, if_neg (by show ¬ insideB w0 h0 ((qa : Int) + (X - x0)) ((qb : Int) + (Y - y0)) = true; rw [hr]; decide)]
        exact xA
    · rintro σ A3 ⟨_, xA, K3⟩
      refine k A3 ?_ (fun bb o e ne => K3 _ _ (S _ _ e) ne)
      rw [List.take_of_length_le (by rw [List.length_map, f5.len] <;> exact Nat.le_refl _)] at xA
      exact xA
end
open PySem PySem.Spec PyProof.Rows L2 Hf
section
variable {P : Program} {w : World} {K : PySem.W.Frag} {mg : Str → Option Value} {base : Heap}
theorem ok_l_place (T : Txt K mg) (c_l_pick : Cal P w K mg base 2 "_law_pick" spPick) (D : DefAt K mg "_law_place" s_l_place ["_law_pen_here"]) : Cal P w K mg base 3 "_law_place" spLPlT := by
  obtain ⟨f, fd, hm, F, b⟩ := D
  refine ⟨f, fnR0 F b sc_l_place (fun vs H Q E h => ?_) (fun cdv A outer s H vs Q E hr h => ?_), hm, F.kp⟩
  · obtain ⟨b, c, kk, rfl, P, k⟩ := h
    rfl
  · obtain ⟨b, c, kk, rfl, P, k⟩ := h
    have hu := hu_of hr
    refine ⟨_, (pss_cons (ps_set (i := 1) sc_l_place.nd rfl (Or.inl rfl) (pe_cl c_l_pick hr passL (pa_cons (pv 0) (pa_cons (pe_lst (pa_cons pe_int (pa_cons pe_int (pa_cons pe_int (pa_cons pe_int (pa_cons pe_int (pa_cons pe_int (pa_cons pe_int (pa_cons (pe_un un_neg pe_int) pa_nil))))))))) pa_nil))))
  (pss_one (ps_ret (pe_cl c_l_pick hr passL (pa_cons (pv 0) (pa_cons (pe_lst (pa_cons (pe_tup (pa_cons pe_int (pa_cons (pv 1) (pa_cons pe_int pa_nil)))) (pa_cons (pe_tup (pa_cons pe_int (pa_cons (pv 1) (pa_cons pe_int pa_nil)))) (pa_cons (pe_tup (pa_cons pe_int (pa_cons (pe_op op_sub pe_int (pv 1)) (pa_cons pe_int pa_nil)))) (pa_cons (pe_tup (pa_cons pe_int (pa_cons (pe_op op_sub pe_int (pv 1)) (pa_cons pe_int pa_nil)))) (pa_cons (pe_tup (pa_cons pe_int (pa_cons (pv 1) (pa_cons pe_int pa_nil)))) (pa_cons (pe_tup (pa_cons pe_int (pa_cons (pe_op op_sub pe_int (pv 1)) (pa_cons pe_int pa_nil)))) pa_nil))))))) pa_nil)))))), ?_⟩
    try dsimp only [cxOf, Cx.nox, Cx.wish, List.map]
    walk_at "rd"
    refine new_lst (by show 8 ≤ 1000; decide) fun l H1 n1 e1 s1 => ?_
    have P1 := P.same s1
    refine ⟨b, c, l, kk + 1, _, rfl, P1, e1, (P.ne n1).1, by decide, by decide, fun i x H2 hx P2 k2 => ?_⟩
    obtain ⟨z, rfl, bz⟩ : ∃ z : Int, x = .int z ∧ z.natAbs ≤ 10 := by
      match i, hx with
      | 0, hx => cases hx; exact ⟨_, rfl, by decide⟩
      | 1, hx => cases hx; exact ⟨_, rfl, by decide⟩
      | 2, hx => cases hx; exact ⟨_, rfl, by decide⟩
      | 3, hx => cases hx; exact ⟨_, rfl, by decide⟩
      | 4, hx => cases hx; exact ⟨_, rfl, by decide⟩
      | 5, hx => cases hx; exact ⟨_, rfl, by decide⟩
      | 6, hx => cases hx; exact ⟨_, rfl, by decide⟩
      | 7, hx => cases hx; exact ⟨_, rfl, by decide⟩
      | i + 8, hx => simp at hx
    walk_at "rd"
    refine new_tup (by show 3 ≤ 1000; decide) fun q0 J0 m0 f0 r0 => ?_
    walk_at "rd"
    refine new_tup (by show 3 ≤ 1000; decide) fun q1 J1 m1 f1 r1 => ?_
    walk_at "rd"
    refine new_tup (by show 3 ≤ 1000; decide) fun q2 J2 m2 f2 r2 => ?_
    walk_at "rd"
    refine new_tup (by show 3 ≤ 1000; decide) fun q3 J3 m3 f3 r3 => ?_
    walk_at "rd"
    refine new_tup (by show 3 ≤ 1000; decide) fun q4 J4 m4 f4 r4 => ?_
    walk_at "rd"
    refine new_tup (by show 3 ≤ 1000; decide) fun q5 J5 m5 f5 r5 => ?_
    walk_at "rd"
    refine new_lst (by show 6 ≤ 1000; decide) fun l3 H3 n3 e3 s3 => ?_
    have P5 := ((((((P2.same r0).same r1).same r2).same r3).same r4).same r5)
    have P6 := P5.same s3
    obtain ⟨cs, hb⟩ := id P6.lst
    have f0 : TAt H3 q0 (0, z, 0) := s3 _ _ (r5 _ _ (r4 _ _ (r3 _ _ (r2 _ _ (r1 _ _ f0)))))
    have f1 : TAt H3 q1 (0, z, 0) := s3 _ _ (r5 _ _ (r4 _ _ (r3 _ _ (r2 _ _ f1))))
    have f2 : TAt H3 q2 (2, 0 - z, 1) := s3 _ _ (r5 _ _ (r4 _ _ (r3 _ _ f2)))
    have f3 : TAt H3 q3 (2, 0 - z, 1) := s3 _ _ (r5 _ _ (r4 _ _ f3))
    have f4 : TAt H3 q4 (1, z, 0) := s3 _ _ (r5 _ _ f4)
    have f5 : TAt H3 q5 (1, 0 - z, 1) := s3 _ _ f5
    have K3 : Keep b H H3 := ((Keep.of s1).trans k2).trans (Keep.of (r0.trans (r1.trans (r2.trans (r3.trans (r4.trans (r5.trans s3)))))))
    refine ⟨b, c, l3, kk, _, rfl, P6, e3, (P5.ne n3).1, by show 0 < 6; decide, by show 6 ≤ 1000000; decide, fun i x H4 hx P4 k4 => ?_⟩
    have go : ∀ {q : Addr} {t : P3}, TAt H3 q t → NearP t → Q (.ref q) H4 := fun f n => k _ _ H4 (f.pen P6 k4) n P4 (K3.trans k4)
    match i, hx with
    | 0, hx => cases hx; exact go f0 (by unfold NearP; dsimp only; omega)
    | 1, hx => cases hx; exact go f1 (by unfold NearP; dsimp only; omega)
    | 2, hx => cases hx; exact go f2 (by unfold NearP; dsimp only; omega)
    | 3, hx => cases hx; exact go f3 (by unfold NearP; dsimp only; omega)
    | 4, hx => cases hx; exact go f4 (by unfold NearP; dsimp only; omega)
    | 5, hx => cases hx; exact go f5 (by unfold NearP; dsimp only; omega)
    | i + 6, hx => simp at hx
theorem ok_l_at (T : Txt K mg) (D : DefAt K mg "_law_at" s_l_at ["_law_place_here", "_law_size"]) : Cal P w K mg base 1 "_law_at" spLAtT := by
  obtain ⟨f, fd, hm, F, b⟩ := D
  refine ⟨f, fnR0 F b sc_l_at (fun vs H Q E h => ?_) (fun cdv A outer s H vs Q E hr h => ?_), hm, F.kp⟩
  · obtain ⟨q, t, n, rfl, e, hs, hn, h1, k⟩ := h
    rfl
  · obtain ⟨q, t, n, rfl, e, hs, hn, h1, k⟩ := h
    have hu := hu_of hr
    refine ⟨_, (pss_one (ps_ret (pe_op op_add (pe_op op_add (pe_op op_mulW (pe_ix ix_tup (pv 0) pe_int (fun _ _ => rfl)) (pe_op op_fdivW (pv 1) pe_int)) (pe_ix ix_tup (pv 0) pe_int (fun _ _ => rfl))) (pe_op op_mulW (pe_ix ix_tup (pv 0) pe_int (fun _ _ => rfl)) (pe_callTy call_int1 (by rfl) T.b_int (by decide +kernel) (pa_cons (pe_op op_mod (pv 1) pe_int) pa_nil)))))), ?_⟩
    try dsimp only [cxOf, Cx.nox, Cx.wish, List.map]
    have h2 : Sm (n / 2) := ⟨by have := hn.1; omega, by have := hn.2; omega⟩
    have h3 : Sm (n % 2) := ⟨by omega, by omega⟩
    walk_at "rd"
    refine use_ixT (SqT.of e) (i := 0) rfl ?_
    walk_at "rd"
    refine rd_I ⟨by decide, by decide⟩ ?_
    walk_at "rd"
    refine rd_I (hs.1.mul h2) ?_
    walk_at "rd"
    refine use_ixT (SqT.of e) (i := 1) rfl ?_
    walk_at "rd"
    refine use_ixT (SqT.of e) (i := 2) rfl ?_
    walk_at "rd"
    refine rd_I (by decide) ?_
    walk_at "rd"
    refine .inl ⟨_, rfl, ?_⟩
    walk_at "rd"
    refine rd_I (hs.2.mul h3) ?_
    walk_at "rd"
    exact k
theorem ok_l_built_place {C CB : Addr} (T : Txt K mg) (C0 : PlC K mg C) (M_Place : Mak P w K mg base 3 "Place" C (spPlX K C CB)) (c_l_draw : Cal P w K mg base 1 "_law_draw" spPDraw) (D : DefAt K mg "_law_built_place" s_l_built_place ["_law_pen_here", "_law_place_here"]) : Cal P w K mg base 5 "_law_built_place" (spLBPl C) := by
  obtain ⟨f, fd, hm, F, b⟩ := D
  refine ⟨f, fnR0 F b sc_l_built_place (fun vs H Q E h => ?_) (fun cdv A outer s H vs Q E hr h => ?_), hm, F.kp⟩
  · obtain ⟨b, c, q, kk, t, rfl, P, e, k⟩ := h
    rfl
  · obtain ⟨b, c, q, kk, t, rfl, P, e, k⟩ := h
    have hu := hu_of hr
    refine ⟨_, (pss_cons (ps_if (pw_and (pt_cmpR op_eq (pe_ix ix_tup (pv 1) pe_int (fun _ _ => rfl)) pe_int (nomark _)) (pw_and (pt_cmpR op_eq (pe_ix ix_tup (pv 1) pe_int (fun _ _ => rfl)) pe_int (nomark _)) (pw_and1 (pt_cmpR op_eq (pe_cl c_l_draw hr passL (pa_cons (pv 0) (pa_cons pe_int pa_nil))) pe_int (nomark _))))).pt (pss_one (ps_ret (pe_ix ix_tup (pv 1) pe_int (fun _ _ => rfl)))) pss_nil)
  (pss_one (ps_ret (pe_ma M_Place hr passL (pa_cons (pe_ix ix_tup (pv 1) pe_int (fun _ _ => rfl)) (pa_cons (pe_ix ix_tup (pv 1) pe_int (fun _ _ => rfl)) (pa_cons (pe_ix ix_tup (pv 1) pe_int (fun _ _ => rfl)) pa_nil))))))), ?_⟩
    try dsimp only [cxOf, Cx.nox, Cx.wish, List.map]
    obtain ⟨t0, t1, t2⟩ := t
    walk_at "rd"
    refine use_ixT (SqT.of e) (i := 0) rfl ?_
    walk_at "rd"
    rw [show (decide (V.int t0 = V.int 0)) = decide (t0 = 0) from by simp]
    by_cases h0 : t0 = 0
    case neg =>
      rw [decide_eq_false h0]
      refine iteF ?_
      refine iteF ?_
      walk_at "rd"
      refine use_ixT (SqT.of e) (i := 0) rfl ?_
      walk_at "rd"
      refine use_ixT (SqT.of e) (i := 1) rfl ?_
      walk_at "rd"
      refine use_ixT (SqT.of e) (i := 2) rfl ?_
      walk_at "rd"
      refine use_plX fun p H1 n1 g1 s1 => ?_
      exact k _ H1 (.inr ⟨p, rfl, g1⟩) ((P.less (by omega)).same s1) (Keep.of s1)
    rw [decide_eq_true h0]
    refine iteT ?_
    walk_at "rd"
    refine use_ixT (SqT.of e) (i := 2) rfl ?_
    walk_at "rd"
    rw [show (decide (V.int t2 = V.int 0)) = decide (t2 = 0) from by simp]
    by_cases h2 : t2 = 0
    case neg =>
      rw [decide_eq_false h2]
      refine iteF ?_
      refine iteF ?_
      walk_at "rd"
      refine use_ixT (SqT.of e) (i := 0) rfl ?_
      walk_at "rd"
      refine use_ixT (SqT.of e) (i := 1) rfl ?_
      walk_at "rd"
      refine use_ixT (SqT.of e) (i := 2) rfl ?_
      walk_at "rd"
      refine use_plX fun p H1 n1 g1 s1 => ?_
      exact k _ H1 (.inr ⟨p, rfl, g1⟩) ((P.less (by omega)).same s1) (Keep.of s1)
    rw [decide_eq_true h2]
    refine iteT ?_
    walk_at "rd"
    refine use_pd P (by decide) (by decide) fun i H1 a1 b1 P1 k1 => ?_
    have e := e.pen P k1
    walk_at "rd"
    rw [show (decide (V.int i = V.int 0)) = decide (i = 0) from by simp]
    cases hi : decide (i = 0) with
    | true =>
      refine iteT ?_
      walk_at "rd"
      refine use_ixT (SqT.of e) (i := 1) rfl ?_
      walk_at "rd"
      exact k _ H1 (.inl ⟨rfl, h0, h2⟩) P1 k1
    | false =>
      refine iteF ?_
      walk_at "rd"
      refine use_ixT (SqT.of e) (i := 0) rfl ?_
      walk_at "rd"
      refine use_ixT (SqT.of e) (i := 1) rfl ?_
      walk_at "rd"
      refine use_ixT (SqT.of e) (i := 2) rfl ?_
      walk_at "rd"
      refine use_plX fun p H2 n2 g2 s2 => ?_
      exact k _ H2 (.inr ⟨p, rfl, g2⟩) (P1.same s2) (k1.trans (Keep.of s2))
theorem ok_l_built_box {C CX CB : Addr} (T : Txt K mg) (C0 : PlC K mg C) (B0 : BxC K mg CX) (kI : PySem.W.kitOne K (.ref C) (.type "int") = some false) (kB : PySem.W.kitOne K (.ref C) (.type "bool") = some false) (M_Box : Mak P w K mg base 7 "Box" CX (spBoxI K C CX CB)) (c_l_built_place : Cal P w K mg base 5 "_law_built_place" (spLBPl C)) (D : DefAt K mg "_law_built_box" s_l_built_box ["_law_pen_here", "_law_four"]) : Cal P w K mg base 9 "_law_built_box" (spLBBx C CX) := by
  obtain ⟨f, fd, hm, F, b⟩ := D
  refine ⟨f, fnR0 F b sc_l_built_box (fun vs H Q E h => ?_) (fun cdv A outer s H vs Q E hr h => ?_), hm, F.kp⟩
  · obtain ⟨b, c, q, kk, t0, t1, t2, t3, rfl, P, f, b0, b1, b2, b3, k⟩ := h
    rfl
  · obtain ⟨b, c, q, kk, t0, t1, t2, t3, rfl, P, f, b0, b1, b2, b3, k⟩ := h
    have hu := hu_of hr
    refine ⟨_, (pss_cons (ps_setLc (i := 2) (own := [("_law_place_here", 3)]) (by rfl) sc_l_built_box.nd rfl rfl (sw_true rfl rfl rfl (by decide +kernel)) (pi_tup (pv 1)) (blkOk_by (own := [("_law_place_here", 3)]) (N := ["_law_pen_here", "_law_four", "_law_some", "_law_place_here"]) (sc := defScope s_l_built_box) (by decide +kernel)) (fun _ _ _ _ _ => (pg_name (i := 3) sc_l_built_box.nd rfl (Or.inl rfl))) (fun _ _ _ _ _ => pts_nil) (fun _ _ _ _ _ => (pe_cl c_l_built_place hr passL (pa_cons (pv 0) (pa_cons (pv 3) pa_nil)))))
  (pss_one (ps_ret (pe_ma M_Box hr passL (pa_cons (pe_ix ix_list (pv 2) pe_int (fun _ _ => rfl)) (pa_cons (pe_ix ix_list (pv 2) pe_int (fun _ _ => rfl)) (pa_cons (pe_ix ix_list (pv 2) pe_int (fun _ _ => rfl)) (pa_cons (pe_ix ix_list (pv 2) pe_int (fun _ _ => rfl)) pa_nil)))))))), ?_⟩
    try dsimp only [cxOf, Cx.nox, Cx.wish, List.map]
    have nw : ∀ {H : Hp} {q : Addr} {t : P3}, PAt C H q t → NotW K H (.ref q) := fun ⟨_, z⟩ => ⟨.ref C, false, false, C0.ty z, kI, kB, rfl⟩
    
    obtain ⟨q0, q1, q2, q3, hq, f⟩ := f
    obtain ⟨cs, hb⟩ := id P.lst
    walk_at "rd"
    refine ⟨q, rfl, ⟨_, SqT.of hq⟩, ?_⟩
    refine lc_accW (b := b) (walk_tup (a := q) (xs := [.ref q0, .ref q1, .ref q2, .ref q3])) ⟨_, hb⟩ (fun ys H' => (∃ m, m + ys.length = 4 ∧ Pen H' b c (kk + m)) ∧ Keep b H H' ∧ F2 (PvG C H') ys ([t0, t1, t2, t3].take ys.length)) (by show 4 ≤ 1000; decide) ⟨⟨4, rfl, P⟩, Keep.refl, .nil⟩ (fun ys H' z => SqT.of (z.2.1 _ _ hq (fun x => by rw [x, hb] at hq; cases hq))) (fun j H1 x H2 y => by rw [y.1]; exact Same.refl _) (fun D H' ys zs hD nD z => ?_) (fun j x ys H1 H2 R hj le z yy kk2 => ?_) fun D ys H1 nD eD lD z => ?_
    · obtain ⟨⟨m, lm, PP⟩, kp, ff⟩ := z
      have nn := P.ne hD
      refine ⟨⟨m, lm, PP.keep Keep.upd nn.1 nn.2⟩, fun a o ha hab => ?_, ff.imp fun a t g => g.put nD⟩
      rw [upd_ne (ne_of_none ha hD)]
      exact kp a o ha hab
    · obtain ⟨rfl, ex⟩ := yy
      obtain ⟨⟨m, lm, PP⟩, kp, ff⟩ := z
      obtain ⟨n, rfl⟩ : ∃ n, m = n + 1 := ⟨m - 1, by have : j < 4 := hj; omega⟩
      have f := f.pen P kp
      obtain ⟨qq, t, rfl, ft, et⟩ : ∃ (qq : Addr) (t : P3), x = .ref qq ∧ TAt H2 qq t ∧ [t0, t1, t2, t3].take (j + 1) = [t0, t1, t2, t3].take j ++ [t] := by
        match j, ex with
        | 0, ex => cases ex; exact ⟨_, _, rfl, f.1, rfl⟩
        | 1, ex => cases ex; exact ⟨_, _, rfl, f.2.1, rfl⟩
        | 2, ex => cases ex; exact ⟨_, _, rfl, f.2.2.1, rfl⟩
        | 3, ex => cases ex; exact ⟨_, _, rfl, f.2.2.2, rfl⟩
        | j + 4, ex => simp at ex
      refine rd_gname ?_
      refine ⟨wipe1, ?_⟩
      walk_at "rd"
      refine ⟨b, c, qq, kk + n, t, rfl, PP, ft, fun y H3 g3 P3 k3 => ?_⟩
      refine kk2 y H3 ⟨⟨n, by rw [List.length_append, List.length_singleton]; omega, P3⟩, kp.trans k3, ?_⟩ k3
      rw [List.length_append, List.length_singleton, le, et]
      rw [le] at ff
      exact F2.append (ff.imp fun a t g => g.pen PP k3) (.cons g3 .nil)
    obtain ⟨⟨m, lm, PP⟩, kp, ff⟩ := z
    replace lD : ys.length = 4 := lD
    rw [lD] at ff lm
    obtain rfl : m = 0 := by omega
    match ys, lD with
    | [y0, y1, y2, y3], _ =>
    cases ff with
    | cons g0 ff =>
    cases ff with
    | cons g1 ff =>
    cases ff with
    | cons g2 ff =>
    cases ff with
    | cons g3 ff =>
    walk_at "rd"
    refine use_ixL (SqL.of eD) (i := 0) rfl ?_
    walk_at "rd"
    refine use_ixL (SqL.of eD) (i := 1) rfl ?_
    walk_at "rd"
    refine use_ixL (SqL.of eD) (i := 2) rfl ?_
    walk_at "rd"
    refine use_ixL (SqL.of eD) (i := 3) rfl ?_
    walk_at "rd"
    refine use_box g0.live g1.live g2.live g3.live ?_
    exact or_pv nw g0 b0 (or_pv nw g1 b1 (or_pv nw g2 b2 (or_pv nw g3 b3 fun r J m gg ss => k r J gg (PP.same ss) (kp.trans (Keep.of ss)))))
theorem ok_l_ends (T : Txt K mg) (c_l_at : Cal P w K mg base 1 "_law_at" spLAtT) (D : DefAt K mg "_law_ends" s_l_ends ["_law_box_here", "_law_width", "_law_height"]) : Cal P w K mg base 2 "_law_ends" spLEnds := by
  obtain ⟨f, fd, hm, F, b⟩ := D
  refine ⟨f, fnR0 F b sc_l_ends (fun vs H Q E h => ?_) (fun cdv A outer s H vs Q E hr h => ?_), hm, F.kp⟩
  · obtain ⟨q, t0, t1, t2, t3, ww, hh, rfl, f, a0, a1, a2, a3, sw, sh, w1, h1, k⟩ := h
    rfl
  · obtain ⟨q, t0, t1, t2, t3, ww, hh, rfl, f, a0, a1, a2, a3, sw, sh, w1, h1, k⟩ := h
    have hu := hu_of hr
    refine ⟨_, (pss_one (ps_ret (pe_tup (pa_cons (pe_cl c_l_at hr passL (pa_cons (pe_ix ix_tup (pv 0) pe_int (fun _ _ => rfl)) (pa_cons (pv 1) pa_nil))) (pa_cons (pe_cl c_l_at hr passL (pa_cons (pe_ix ix_tup (pv 0) pe_int (fun _ _ => rfl)) (pa_cons (pv 1) pa_nil))) (pa_cons (pe_cl c_l_at hr passL (pa_cons (pe_ix ix_tup (pv 0) pe_int (fun _ _ => rfl)) (pa_cons (pv 2) pa_nil))) (pa_cons (pe_cl c_l_at hr passL (pa_cons (pe_ix ix_tup (pv 0) pe_int (fun _ _ => rfl)) (pa_cons (pv 2) pa_nil))) pa_nil))))))), ?_⟩
    try dsimp only [cxOf, Cx.nox, Cx.wish, List.map]
    obtain ⟨q0, q1, q2, q3, hq, f0, f1, f2, f3⟩ := f
    walk_at "rd"
    refine use_ixT (SqT.of hq) (i := 0) rfl ?_
    walk_at "rd"
    refine ⟨q0, t0, ww, rfl, f0, a0, sw, w1, ?_⟩
    walk_at "rd"
    refine use_ixT (SqT.of hq) (i := 1) rfl ?_
    walk_at "rd"
    refine ⟨q1, t1, ww, rfl, f1, a1, sw, w1, ?_⟩
    walk_at "rd"
    refine use_ixT (SqT.of hq) (i := 2) rfl ?_
    walk_at "rd"
    refine ⟨q2, t2, hh, rfl, f2, a2, sh, h1, ?_⟩
    walk_at "rd"
    refine use_ixT (SqT.of hq) (i := 3) rfl ?_
    walk_at "rd"
    refine ⟨q3, t3, hh, rfl, f3, a3, sh, h1, ?_⟩
    walk_at "rd"
    exact new_tup (by show 4 ≤ 1000; decide) fun t J n e s => k t J e s
end
open PySem PySem.Spec PyProof.Rows L2 Hf
section
variable {P : Program} {w : World} {K : PySem.W.Frag} {mg : Str → Option Value} {base : Heap}
theorem ok_l_box (T : Txt K mg) (c_l_draw : Cal P w K mg base 1 "_law_draw" spPDraw) (c_l_place : Cal P w K mg base 3 "_law_place" spLPlT) (D : DefAt K mg "_law_box" s_l_box ["_law_pen_here"]) : Cal P w K mg base 4 "_law_box" (spLBoxN 10) := by
  obtain ⟨f, fd, hm, F, b⟩ := D
  refine ⟨f, fnR0 F b sc_l_box (fun vs H Q E h => ?_) (fun cdv A outer s H vs Q E hr h => ?_), hm, F.kp⟩
  · obtain ⟨b, c, kk, rfl, P, k⟩ := h
    rfl
  · obtain ⟨b, c, kk, rfl, P, k⟩ := h
    have hu := hu_of hr
    refine ⟨_, (pss_cons (ps_par (i := 1) (j := 2) rfl sc_l_box.nd rfl rfl (by decide) rfl rfl (pa_cons (pe_cl c_l_draw hr passL (pa_cons (pv 0) (pa_cons pe_int pa_nil))) (pa_cons (pe_cl c_l_draw hr passL (pa_cons (pv 0) (pa_cons pe_int pa_nil))) pa_nil)) rfl)
  (pss_cons (ps_if (pt_cmpR op_lt (pv 1) pe_int (nomark _)) (pss_one (ps_ret (pe_tup (pa_cons (pe_tup (pa_cons pe_int (pa_cons (pv 2) (pa_cons pe_int pa_nil)))) (pa_cons (pe_tup (pa_cons pe_int (pa_cons (pe_op op_sub pe_int (pv 2)) (pa_cons pe_int pa_nil)))) (pa_cons (pe_tup (pa_cons pe_int (pa_cons (pv 2) (pa_cons pe_int pa_nil)))) (pa_cons (pe_tup (pa_cons pe_int (pa_cons (pe_op op_sub pe_int (pv 2)) (pa_cons pe_int pa_nil)))) pa_nil))))))) pss_nil)
  (pss_one (ps_ret (pe_tup (pa_cons (pe_cl c_l_place hr passL (pa_cons (pv 0) pa_nil)) (pa_cons (pe_cl c_l_place hr passL (pa_cons (pv 0) pa_nil)) (pa_cons (pe_cl c_l_place hr passL (pa_cons (pv 0) pa_nil)) (pa_cons (pe_cl c_l_place hr passL (pa_cons (pv 0) pa_nil)) pa_nil))))))))), ?_⟩
    try dsimp only [cxOf, Cx.nox, Cx.wish, List.map]
    walk_at "rd"
    refine use_pd (k := kk + 9) P (by decide) (by decide) fun i H1 a1 b1 P1 k1 => ?_
    walk_at "rd"
    refine use_pd (k := kk + 8) P1 (by decide) (by decide) fun z H2 a2 b2 P2 k2 => ?_
    have K2 := k1.trans k2
    walk_at "rd"
    refine ite_split (fun _ => ?_) (fun _ => ?_)
    · walk_at "rd"
      refine new_tup (by show 3 ≤ 1000; decide) fun q0 J0 m0 f0 r0 => ?_
      walk_at "rd"
      refine new_tup (by show 3 ≤ 1000; decide) fun q1 J1 m1 f1 r1 => ?_
      walk_at "rd"
      refine new_tup (by show 3 ≤ 1000; decide) fun q2 J2 m2 f2 r2 => ?_
      walk_at "rd"
      refine new_tup (by show 3 ≤ 1000; decide) fun q3 J3 m3 f3 r3 => ?_
      walk_at "rd"
      refine new_tup (by show 4 ≤ 1000; decide) fun t H5 n5 e5 s5 => ?_
      have g0 : TAt H5 q0 (0, z, 0) := s5 _ _ (r3 _ _ (r2 _ _ (r1 _ _ f0)))
      have g1 : TAt H5 q1 (2, 0 - z, 1) := s5 _ _ (r3 _ _ (r2 _ _ f1))
      have g2 : TAt H5 q2 (0, z, 0) := s5 _ _ (r3 _ _ f2)
      have g3 : TAt H5 q3 (2, 0 - z, 1) := s5 _ _ f3
      have SS := r0.trans (r1.trans (r2.trans (r3.trans s5)))
      exact k t _ _ _ _ H5 ⟨q0, q1, q2, q3, e5, g0, g1, g2, g3⟩ (by unfold NearP; dsimp only; omega) (by unfold NearP; dsimp only; omega) (by unfold NearP; dsimp only; omega) (by unfold NearP; dsimp only; omega) ((P2.less (by omega)).same SS) (K2.trans (Keep.of SS))
    · walk_at "rd"
      refine ⟨b, c, kk + 6, rfl, P2, fun q0 t0 J0 f0 n0 P10 k10 => ?_⟩
      walk_at "rd"
      refine ⟨b, c, kk + 4, rfl, P10, fun q1 t1 J1 f1 n1 P11 k11 => ?_⟩
      walk_at "rd"
      replace f0 := f0.pen P10 k11
      refine ⟨b, c, kk + 2, rfl, P11, fun q2 t2 J2 f2 n2 P12 k12 => ?_⟩
      walk_at "rd"
      replace f0 := f0.pen P11 k12
      replace f1 := f1.pen P11 k12
      refine ⟨b, c, kk, rfl, P12, fun q3 t3 J3 f3 n3 P13 k13 => ?_⟩
      walk_at "rd"
      replace f0 := f0.pen P12 k13
      replace f1 := f1.pen P12 k13
      replace f2 := f2.pen P12 k13
      refine new_tup (by show 4 ≤ 1000; decide) fun t H5 n5 e5 s5 => ?_
      exact k t t0 t1 t2 t3 H5 ⟨q0, q1, q2, q3, e5, f0.same s5, f1.same s5, f2.same s5, f3.same s5⟩ n0 n1 n2 n3 (P13.same s5) (K2.trans (k10.trans (k11.trans (k12.trans (k13.trans (Keep.of s5))))))
end
open PySem PySem.Spec PyProof.Rows L2 Hf
section
variable {P : Program} {w : World} {K : PySem.W.Frag} {mg : Str → Option Value} {base : Heap}
theorem ok_l_built {C CX CO : Addr} (T : Txt K mg) (C0 : PlC K mg C) (kI : PySem.W.kitOne K (.ref C) (.type "int") = some false) (kB : PySem.W.kitOne K (.ref C) (.type "bool") = some false) (c_l_built_box : Cal P w K mg base 9 "_law_built_box" (spLBBx C CX)) (c_l_built_place : Cal P w K mg base 5 "_law_built_place" (spLBPl C)) (M_Copy : Mak P w K mg base 9 "Copy" CO (spCopyI K CO C CX)) (D : DefAt K mg "_law_built" s_l_built ["_law_pen_here", "_law_told"]) : Cal P w K mg base 11 "_law_built" (spLBuiltC C CX CO) := by
  obtain ⟨f, fd, hm, F, b⟩ := D
  refine ⟨f, fnR0 F b sc_l_built (fun vs H Q E h => ?_) (fun cdv A outer s H vs Q E hr h => ?_), hm, F.kp⟩
  · obtain ⟨b, c, q, kk, t0, t1, t2, t3, tx, ty, rfl, P, tt, a0, a1, a2, a3, ax, ay, k⟩ := h
    rfl
  · obtain ⟨b, c, q, kk, t0, t1, t2, t3, tx, ty, rfl, P, tt, a0, a1, a2, a3, ax, ay, k⟩ := h
    have hu := hu_of hr
    refine ⟨_, (pss_cons (ps_set (i := 2) sc_l_built.nd rfl (Or.inl rfl) (pe_ix ix_tup (pv 1) pe_int (fun _ _ => rfl)))
  (pss_cons (ps_if (pt_cmpR op_eq (pv 2) pe_str (nomark _)) pss_never pss_nil)
  (pss_cons (ps_if (pt_cmpR op_eq (pv 2) pe_str (nomark _)) pss_never pss_nil)
  (pss_cons (ps_if (pt_cmpR op_eq (pv 2) pe_str (nomark _)) (pss_one (ps_ret (pe_ma M_Copy hr passL (pa_cons (pe_cl c_l_built_box hr passL (pa_cons (pv 0) (pa_cons (pe_ix ix_tup (pv 1) pe_int (fun _ _ => rfl)) pa_nil))) (pa_cons (pe_cl c_l_built_place hr passL (pa_cons (pv 0) (pa_cons (pe_ix ix_tup (pv 1) pe_int (fun _ _ => rfl)) pa_nil))) (pa_cons (pe_cl c_l_built_place hr passL (pa_cons (pv 0) (pa_cons (pe_ix ix_tup (pv 1) pe_int (fun _ _ => rfl)) pa_nil))) pa_nil)))))) pss_nil)
  pss_never)))), ?_⟩
    try dsimp only [cxOf, Cx.nox, Cx.wish, List.map]
    have nw : ∀ {H : Hp} {q : Addr} {t : P3}, PAt C H q t → NotW K H (.ref q) := fun ⟨_, z⟩ => ⟨.ref C, false, false, C0.ty z, kI, kB, rfl⟩
    obtain ⟨qb, qx, qy, ht, f, gx, gy⟩ := id tt
    walk_at "rd"
    refine use_ixT (SqT.of ht) (i := 0) rfl ?_
    walk_at "rd"
    
    rw [decide_eq_false (by decide +kernel)]
    refine iteF ?_
    walk_at "rd"
    rw [decide_eq_false (by decide +kernel)]
    refine iteF ?_
    walk_at "rd"
    rw [decide_eq_true rfl]
    refine iteT ?_
    walk_at "rd"
    refine use_ixT (SqT.of ht) (i := 1) rfl ?_
    walk_at "rd"
    refine ⟨b, c, qb, kk + 2, t0, t1, t2, t3, rfl, P, f, a0.bd, a1.bd, a2.bd, a3.bd, fun bp H1 bx P1 k1 => ?_⟩
    have ht1 := (ToldC.pen tt P k1)
    obtain ⟨qb', qx', qy', ht', f', gx', gy'⟩ := id ht1
    walk_at "rd"
    refine use_ixT (SqT.of ht') (i := 2) rfl ?_
    walk_at "rd"
    refine ⟨b, c, qx', kk + 1, tx, rfl, P1, gx', fun vx H2 v2 P2 k2 => ?_⟩
    have bx2 := bx.insK (InsK.pen P1 k2)
    have ht2 := ht1.pen P1 k2
    obtain ⟨qb2, qx2, qy2, ht2', f2, gx2, gy2⟩ := id ht2
    walk_at "rd"
    refine use_ixT (SqT.of ht2') (i := 3) rfl ?_
    walk_at "rd"
    refine ⟨b, c, qy2, kk, ty, rfl, P2, gy2, fun vy H3 v3 P3 k3 => ?_⟩
    have bx3 := bx2.insK (InsK.pen P2 k3)
    have v23 := v2.pen P2 k3
    walk_at "rd"
    refine use_copy bx3 ⟨v23, ax.bd, nw⟩ ⟨v3, ay.bd, nw⟩ fun p H4 n4 g4 s4 => ?_
    exact k p H4 g4 (P3.same s4) (k1.trans (k2.trans (k3.trans (Keep.of s4))))
end
open PySem PySem.Spec PyProof.Rows L2 Hf
section
variable {P : Program} {w : World} {K : PySem.W.Frag} {mg : Str → Option Value} {base : Heap}
theorem ok_l_is_pixel (T : Txt K mg) (D : DefAt K mg "_law_is_pixel" s_l_is_pixel ["_law_grid", "_law_x", "_law_y"]) : Cal P w K mg base 1 "_law_is_pixel" spLIsPx := by
  obtain ⟨f, fd, hm, F, b⟩ := D
  refine ⟨f, fnR0 F b sc_l_is_pixel (fun vs H Q E h => ?_) (fun cdv A outer s H vs Q E hr h => ?_), hm, F.kp⟩
  · obtain ⟨ga, R, w0, h0, x, y, rfl, g, G, F, k⟩ := h
    rfl
  · obtain ⟨ga, R, w0, h0, x, y, rfl, g, G, F, k⟩ := h
    have hu := hu_of hr
    refine ⟨_, (pss_one (ps_ret (pe_and (pe_chain op_le op_lt pe_int (pv 2) (pe_callB call_len_seq (by rfl) T.b_len (by decide +kernel) (pa_cons (pv 0) pa_nil))) (pe_one (pe_chain op_le op_lt pe_int (pv 1) (pe_callB call_len_seq (by rfl) T.b_len (by decide +kernel) (pa_cons (pe_ix ix_list (pv 0) pe_int (fun _ _ => rfl)) pa_nil))))))), ?_⟩
    try dsimp only [cxOf, Cx.nox, Cx.wish, List.map]
    have kF : ∀ {b : Bool}, insideB w0 h0 x y = b → Q (.bl b) H := fun {b} e => by rw [← e]; exact k
    have nf : ¬ (0 ≤ x ∧ x < w0 ∧ 0 ≤ y ∧ y < h0) → Q (.bl false) H := fun n => kF (by
      cases c : insideB w0 h0 x y with
      | true => exact absurd (ins_iff.mp c) n
      | false => rfl)
    have w1 := F.w1
    have w2 := F.w2
    have h1 := F.h1
    have h2 := F.h2
    obtain ⟨rs0, hg, gi, nd0⟩ := id g
    have lr0 : rs0.length = h0 := gi.len.trans G.h
    obtain ⟨ra, hra⟩ : ∃ ra, rs0[0]? = some ra := ⟨rs0[0]'(by omega), List.getElem?_eq_getElem _⟩
    obtain ⟨row, hrow, eRow⟩ := F2.get gi hra
    have rowl := G.w row (List.mem_of_getElem? hrow)
    walk_at "rd"
    refine ch_bl (fun c1 => ?_) (fun c1 => ?_)
    rotate_left
    · have c1 := of_decide_eq_false c1
      exact ⟨_, rfl, iteF (nf (by omega))⟩
    have c1 := of_decide_eq_true c1
    walk_at "rd"
    refine ⟨ga, rs0.map V.ref, rfl, .inl (SqL.of hg), ?_⟩
    rw [List.length_map, lr0]
    walk_at "rd"
    refine ite_split (fun c2 => ?_) (fun c2 => ?_)
    rotate_left
    · have c2 := of_decide_eq_false c2
      exact nf (by omega)
    have c2 := of_decide_eq_true c2
    walk_at "rd"
    refine ch_bl (fun c3 => ?_) (fun c3 => ?_)
    rotate_left
    · have c3 := of_decide_eq_false c3
      exact nf (by omega)
    have c3 := of_decide_eq_true c3
    walk_at "rd"
    refine use_ixL (SqL.of hg) (v := .ref ra) (atI_nat (j := 0) (by rw [List.getElem?_map, hra]; rfl)) ?_
    walk_at "rd"
    refine ⟨ra, row.map inum, rfl, .inl (SqL.of eRow), ?_⟩
    rw [List.length_map, rowl]
    walk_at "rd"
    refine kF ?_
    cases c : decide (x < (w0 : Int)) with
    | true =>
      have c := of_decide_eq_true c
      exact ins_iff.mpr (by omega)
    | false =>
      have c := of_decide_eq_false c
      cases d : insideB w0 h0 x y with
      | true =>
        have := ins_iff.mp d
        omega
      | false => rfl
end
open PySem PySem.Spec PyProof.Rows L2 Hf
section
variable {P : Program} {w : World} {K : PySem.W.Frag} {mg : Str → Option Value} {base : Heap}
theorem ok_l_spots (T : Txt K mg) (D : DefAt K mg "_law_spots" s_l_spots ["_law_grid"]) : Cal P w K mg base 1 "_law_spots" spLSpots := by
  obtain ⟨f, fd, hm, F, b⟩ := D
  refine ⟨f, fnR0 F b sc_l_spots (fun vs H Q E h => ?_) (fun cdv A outer s H vs Q E hr h => ?_), hm, F.kp⟩
  · obtain ⟨ga, R, w0, h0, rfl, g, G, F, k⟩ := h
    rfl
  · obtain ⟨ga, R, w0, h0, rfl, g, G, F, k⟩ := h
    have hu := hu_of hr
    refine ⟨_, (pss_cons (ps_set (i := 1) sc_l_spots.nd rfl (Or.inl rfl) (pe_lst pa_nil))
  (pss_cons (ps_for PassesOwn.never rfl (pi_range1 rfl T.b_range (pa_cons (pe_callB call_len_seq (by rfl) T.b_len (by decide +kernel) (pa_cons (pv 0) pa_nil)) pa_nil)) (pg_name (i := 2) sc_l_spots.nd rfl (Or.inr rfl))
  (pss_one (ps_expr (pe_bm PySem.F.plainAttrs_list PySem.F.slot_list_extend PySem.F.type_list_extend mt_extend (pv 1) (pa_cons (pe_lc (own := [("_law_x", 3)]) (by rfl) sc_l_spots.nd (pi_range1 rfl T.b_range (pa_cons (pe_callB call_len_seq (by rfl) T.b_len (by decide +kernel) (pa_cons (pe_ix ix_list (pv 0) pe_int (fun _ _ => rfl)) pa_nil)) pa_nil)) (blkOk_by (own := [("_law_x", 3)]) (N := ["_law_grid", "_law_found", "_law_y", "_law_x"]) (sc := defScope s_l_spots) (by decide +kernel)) (fun _ _ _ _ _ => (pg_name (i := 3) sc_l_spots.nd rfl (Or.inl rfl))) (fun _ _ _ _ _ => pts_nil) (fun _ _ _ _ _ => (pe_tup (pa_cons (pv 3) (pa_cons (pv 2) pa_nil))))) pa_nil)))))
  (pss_one (ps_ret (pv 1))))), ?_⟩
    try dsimp only [cxOf, Cx.nox, Cx.wish, List.map]
    have w1 := F.w1
    have w2 := F.w2
    have h1 := F.h1
    have h2 := F.h2
    obtain ⟨rs0, hg, gi, nd0⟩ := id g
    have lr0 : rs0.length = h0 := gi.len.trans G.h
    obtain ⟨ra, hra⟩ : ∃ ra, rs0[0]? = some ra := ⟨rs0[0]'(by omega), List.getElem?_eq_getElem _⟩
    obtain ⟨row, hrow, eRow⟩ := F2.get gi hra
    have rowl := G.w row (List.mem_of_getElem? hrow)
    walk_at "rd"
    refine new_lst (by show 0 ≤ 1000; decide) fun fo H1 n1 e1 s1 => ?_
    walk_at "rd"
    refine ⟨ga, rs0.map V.ref, rfl, .inl (SqL.of (s1 _ _ hg)), ?_⟩
    rw [List.length_map, lr0]
    refine ⟨(h0 : Int), rfl, by omega, by omega, ?_⟩
    rw [Int.toNat_natCast]
    refine for_range (n := h0) (fun n σ H' => (∃ v2 : Option V, σ = [some (.ref ga), some (.ref fo), v2, none]) ∧ (∃ ts : List Addr, H' fo = some (.lst (ts.map V.ref)) ∧ F2 (TupP H') ts (boxP 0 w0 0 n)) ∧ Same H H') ⟨⟨none, rfl⟩, ⟨[], e1, .nil⟩, s1⟩ ?_ ?_
    · rintro n σ A1 hn ⟨⟨v2, rfl⟩, ⟨ts, ef, f2⟩, SA⟩
      refine rd_gname ?_
      walk_at "rd"
      refine is_lst ef ?_
      walk_at "rd"
      refine use_ixL (SqL.of (SA _ _ hg)) (v := .ref ra) (atI_nat (j := 0) (by rw [List.getElem?_map, hra]; rfl)) ?_
      walk_at "rd"
      refine ⟨ra, row.map inum, rfl, .inl (SqL.of (SA _ _ eRow)), ?_⟩
      rw [List.length_map, rowl]
      refine ⟨(w0 : Int), rfl, by omega, by omega, ?_⟩
      rw [Int.toNat_natCast]
      refine lc_stW (walk_range (lo := 0) (n := w0)) (fun D ys H' => (∃ us : List Addr, ys = us.map V.ref ∧ F2 (TupP H') us (rowP 0 us.length (0 + (n : Int)))) ∧ Same A1 H') (by omega) (fun D nD => ⟨⟨[], rfl, .nil⟩, Same.new nD⟩) (fun _ _ _ _ => trivial) (fun D j xv ys B1 B2 QQ hj nD a eD lD yy kk => ?_) fun D ys B1 nD eD lD a => ?_
      · obtain ⟨rfl, hx⟩ := yy
        subst hx
        obtain ⟨⟨us, rfl, fu⟩, SB⟩ := a
        rw [List.length_map] at lD
        refine rd_gname ?_
        refine ⟨wipe1, ?_⟩
        walk_at "rd"
        refine new_tup (by show 2 ≤ 1000; decide) fun t B3 m3 e3 s3 => ?_
        refine kk _ B3 (s3 _ _ eD) ⟨⟨us ++ [t], by rw [List.map_append]; rfl, ?_⟩, Same.mut (SB.trans s3) nD⟩
        rw [List.length_append, List.length_singleton, rowP_succ, lD]
        refine (tups_put (tups_same ?_ s3) (s3 _ _ eD)).append (.cons ?_ .nil)
        · rw [← lD]; exact fu
        · show upd B3 D _ t = _
          rw [upd_ne (fun z => by rw [z, s3 _ _ eD] at e3; cases e3)]
          exact e3
      · obtain ⟨⟨us, rfl, fu⟩, SB⟩ := a
        rw [List.length_map] at lD
        rw [lD] at fu
        have efB := SB _ _ ef
        walk_at "rd"
        refine ⟨fo, D, ts.map V.ref, us.map V.ref, rfl, rfl, efB, eD, ?_, ?_⟩
        · have l1 : n * w0 ≤ 200 * 200 := Nat.mul_le_mul (by omega) w2
          rw [List.length_map, List.length_map, f2.len, boxP_len, lD]
          show n * w0 + w0 ≤ 2 ^ 24
          omega
        refine ⟨⟨_, rfl⟩, ⟨ts ++ us, by rw [upd_same, List.map_append], ?_⟩, Same.mut (SA.trans SB) n1⟩
        rw [boxP_succ]
        exact (tups_put (tups_same f2 SB) efB).append (tups_put fu efB)
    · rintro σ A1 ⟨⟨v2, rfl⟩, ⟨ts, ef, f2⟩, SA⟩
      walk_at "rd"
      exact k fo ts A1 ef f2 SA
end
open PySem PySem.Spec PyProof.Rows L2 Hf
section
variable {P : Program} {w : World} {K : PySem.W.Frag} {mg : Str → Option Value} {base : Heap}
theorem ok_l_within (T : Txt K mg) (c_l_ends : Cal P w K mg base 2 "_law_ends" spLEnds) (c_l_spots : Cal P w K mg base 1 "_law_spots" spLSpots) (D : DefAt K mg "_law_within" s_l_within ["_law_grid", "_law_box_here"]) : Cal P w K mg base 3 "_law_within" spLWithin := by
  obtain ⟨f, fd, hm, F, b⟩ := D
  refine ⟨f, fnR0 F b sc_l_within (fun vs H Q E h => ?_) (fun cdv A outer s H vs Q E hr h => ?_), hm, F.kp⟩
  · obtain ⟨ga, q, R, w0, h0, t0, t1, t2, t3, rfl, g, G, F, f, a0, a1, a2, a3, k⟩ := h
    rfl
  · obtain ⟨ga, q, R, w0, h0, t0, t1, t2, t3, rfl, g, G, F, f, a0, a1, a2, a3, k⟩ := h
    have hu := hu_of hr
    refine ⟨_, (pss_cons (ps_asg (pe_cl c_l_ends hr passL (pa_cons (pv 1) (pa_cons (pe_callB call_len_seq (by rfl) T.b_len (by decide +kernel) (pa_cons (pe_ix ix_list (pv 0) pe_int (fun _ _ => rfl)) pa_nil)) (pa_cons (pe_callB call_len_seq (by rfl) T.b_len (by decide +kernel) (pa_cons (pv 0) pa_nil)) pa_nil)))) (pg_tup rfl (pgs_cons (pg_name (i := 2) sc_l_within.nd rfl (Or.inr rfl)) (pgs_cons (pg_name (i := 3) sc_l_within.nd rfl (Or.inr rfl)) (pgs_cons (pg_name (i := 4) sc_l_within.nd rfl (Or.inr rfl)) (pgs_cons (pg_name (i := 5) sc_l_within.nd rfl (Or.inr rfl)) pgs_nil))))))
  (pss_one (ps_ret (pe_lc (own := [("_law_x", 6), ("_law_y", 7)]) (by rfl) sc_l_within.nd (pi_list (pe_cl c_l_spots hr passL (pa_cons (pv 0) pa_nil))) (blkOk_by (own := [("_law_x", 6), ("_law_y", 7)]) (N := ["_law_grid", "_law_box_here", "_law_x0", "_law_x1", "_law_y0", "_law_y1", "_law_x", "_law_y"]) (sc := defScope s_l_within) (by decide +kernel)) (fun _ _ _ _ _ => (pg_tupB (K := K) (n := 2) rfl (pgs_cons (pg_name (i := 6) sc_l_within.nd rfl (Or.inl rfl)) (pgs_cons (pg_name (i := 7) sc_l_within.nd rfl (Or.inl rfl)) pgs_nil)))) (fun _ _ _ _ _ => (pts_one (pw_and (pt_chain op_le op_lt (pv 2) (pv 6) (pv 3)) (pw_and1 (pt_chain op_le op_lt (pv 4) (pv 7) (pv 5)))).pt)) (fun _ _ _ _ _ => (pe_tup (pa_cons (pv 6) (pa_cons (pv 7) pa_nil)))))))), ?_⟩
    try dsimp only [cxOf, Cx.nox, Cx.wish, List.map]
    have w1 := F.w1
    have w2 := F.w2
    have h1 := F.h1
    have h2 := F.h2
    obtain ⟨rs0, hg, gi, nd0⟩ := id g
    have lr0 : rs0.length = h0 := gi.len.trans G.h
    obtain ⟨ra, hra⟩ : ∃ ra, rs0[0]? = some ra := ⟨rs0[0]'(by omega), List.getElem?_eq_getElem _⟩
    obtain ⟨row, hrow, eRow⟩ := F2.get gi hra
    have rowl := G.w row (List.mem_of_getElem? hrow)
    walk_at "rd"
    refine use_ixL (SqL.of hg) (v := .ref ra) (atI_nat (j := 0) (by rw [List.getElem?_map, hra]; rfl)) ?_
    walk_at "rd"
    refine ⟨ra, row.map inum, rfl, .inl (SqL.of eRow), ?_⟩
    rw [List.length_map, rowl]
    walk_at "rd"
    refine ⟨ga, rs0.map V.ref, rfl, .inl (SqL.of hg), ?_⟩
    rw [List.length_map, lr0]
    walk_at "rd"
    refine ⟨q, t0, t1, t2, t3, (w0 : Int), (h0 : Int), rfl, f, a0.sp.smP, a1.sp.smP, a2.sp.smP, a3.sp.smP, ⟨by omega, by omega⟩, ⟨by omega, by omega⟩, by omega, by omega, fun t H1 e1 s1 => ?_⟩
    obtain ⟨x0, x1, y0, y1, eb⟩ : ∃ x0 x1 y0 y1, bxV t0 t1 t2 t3 (w0 : Int) (h0 : Int) = [x0, x1, y0, y1] := ⟨_, _, _, _, rfl⟩
    rw [eb] at e1
    replace e1 : H1 t = some (.tup [.int x0, .int x1, .int y0, .int y1]) := e1
    have k := k _ _ _ _ eb
    refine rd_gtup (SqT.of e1) rfl ?_
    walk_at "rd"
    refine ⟨ga, R, w0, h0, rfl, g.same s1, G, F, fun l ts H2 hl Tm s2 => ?_⟩
    have nb := s1.trans s2
    refine ⟨l, rfl, ⟨_, SqL.of hl⟩, ?_⟩
    refine lc_fW (walk_list (a := l) (xs := ts.map V.ref)) (fun j D ys H' => (∃ us : List Addr, ys = us.map V.ref ∧ F2 (TupP H') us (((boxP 0 w0 0 h0).take j).filter (inB x0 x1 y0 y1))) ∧ Same H2 H') ?_ (fun D nD => ⟨⟨[], rfl, .nil⟩, Same.new nD⟩) (fun j D ys H' a => SqL.of (a.2 _ _ hl)) (fun D j xv ys B1 B2 R1 R2 hj nD a eD yy k1 k2 => ?_) fun D ys B1 nD eD a => ?_
    · rw [List.length_map, Tm.len, boxP_len]
      have l1 : h0 * w0 ≤ 200 * 200 := Nat.mul_le_mul h2 w2
      show h0 * w0 ≤ 1000000
      omega
    · obtain ⟨rfl, ex⟩ := yy
      obtain ⟨⟨us, rfl, fu⟩, SB⟩ := a
      obtain ⟨tq, htq, rfl⟩ := map_get ex
      obtain ⟨p2, eq, Tq⟩ := Tm.get htq
      obtain ⟨x, y⟩ := p2
      have Tq : B2 tq = some (.tup [.int x, .int y]) := SB _ _ Tq
      have e4 : (boxP 0 w0 0 h0).take (j + 1) = (boxP 0 w0 0 h0).take j ++ [(x, y)] := by
        rw [List.take_add_one, eq]
        rfl
      refine rd_gtup (SqT.of Tq) rfl ?_
      have out : inB x0 x1 y0 y1 (x, y) = false → R2 B2 := fun z => k2 B2 eD ⟨⟨us, rfl, by
        rw [e4, List.filter_append, List.filter_cons, if_neg (by rw [z]; decide), List.filter_nil, List.append_nil]
        exact fu⟩, SB⟩
      walk_at "rd"
      refine ⟨rfl, ?_⟩
      walk_at "rd"
      refine ch_bl (fun c1 => ?_) (fun c1 => ?_)
      rotate_left
      · walk_at "rd"
        have oo := out (by unfold inB; rw [c1]; rfl)
        first | exact iteF (iteF oo) | exact iteF oo | exact oo | exact ⟨_, rfl, iteF (iteF oo)⟩ | exact ⟨_, rfl, iteF oo⟩
      walk_at "rd"
      refine ite_split (fun c2 => ?_) (fun c2 => ?_)
      rotate_left
      · walk_at "rd"
        have oo := out (by unfold inB; rw [c1, c2]; rfl)
        first | exact iteF (iteF oo) | exact iteF oo | exact oo | exact ⟨_, rfl, iteF (iteF oo)⟩ | exact ⟨_, rfl, iteF oo⟩
      walk_at "rd"
      refine ch_bl (fun c3 => ?_) (fun c3 => ?_)
      rotate_left
      · walk_at "rd"
        have oo := out (by unfold inB; rw [c1, c2, c3]; rfl)
        first | exact iteF (iteF oo) | exact iteF oo | exact oo | exact ⟨_, rfl, iteF (iteF oo)⟩ | exact ⟨_, rfl, iteF oo⟩
      walk_at "rd"
      refine ite_split (fun c4 => ?_) (fun c4 => ?_)
      rotate_left
      · walk_at "rd"
        have oo := out (by unfold inB; rw [c1, c2, c3, c4]; rfl)
        first | exact iteF (iteF oo) | exact iteF oo | exact oo | exact ⟨_, rfl, iteF (iteF oo)⟩ | exact ⟨_, rfl, iteF oo⟩
      walk_at "rd"
      refine new_tup (by show 2 ≤ 1000; decide) fun t2 B3 m3 e3 s3 => ?_
      have eD3 := s3 _ _ eD
      refine k1 _ B3 eD3 ⟨⟨us ++ [t2], by rw [List.map_append]; rfl, ?_⟩, Same.mut (SB.trans s3) nD⟩
      have tru : inB x0 x1 y0 y1 (x, y) = true := by unfold inB; rw [c1, c2, c3, c4]; rfl
      rw [e4, List.filter_append, List.filter_cons, if_pos tru, List.filter_nil]
      refine (tups_put (tups_same fu s3) eD3).append (.cons ?_ .nil)
      show upd B3 D _ t2 = _
      rw [upd_ne (fun z => by rw [z, eD3] at e3; cases e3)]
      exact e3
    · obtain ⟨⟨us, rfl, fu⟩, SB⟩ := a
      rw [List.take_of_length_le (by rw [List.length_map, Tm.len]; exact Nat.le_refl _)] at fu
      exact k D us B1 (same_back nb nD) eD fu (s1.trans (s2.trans SB))
end
open PySem PySem.Spec PyProof.Rows L2 Hf
section
variable {P : Program} {w : World} {K : PySem.W.Frag} {mg : Str → Option Value} {base : Heap}
theorem ok_l_copied (T : Txt K mg) (c_l_ends : Cal P w K mg base 2 "_law_ends" spLEnds) (c_l_at : Cal P w K mg base 1 "_law_at" spLAtT) (c_l_within : Cal P w K mg base 3 "_law_within" spLWithin) (c_l_is_pixel : Cal P w K mg base 1 "_law_is_pixel" spLIsPx) (D : DefAt K mg "_law_copied" s_l_copied ["_law_grid", "_law_told"]) : Cal P w K mg base 4 "_law_copied" spLCopied := by
  obtain ⟨f, fd, hm, F, b⟩ := D
  refine ⟨f, fnR0 F b sc_l_copied (fun vs H Q E h => ?_) (fun cdv A outer s H vs Q E hr h => ?_), hm, F.kp⟩
  · obtain ⟨ga, q, R, w0, h0, t0, t1, t2, t3, tx, ty, rfl, g, G, F, tt, a0, a1, a2, a3, ax, ay, k⟩ := h
    rfl
  · obtain ⟨ga, q, R, w0, h0, t0, t1, t2, t3, tx, ty, rfl, g, G, F, tt, a0, a1, a2, a3, ax, ay, k⟩ := h
    have hu := hu_of hr
    refine ⟨_, (pss_cons (ps_par (i := 2) (j := 3) rfl sc_l_copied.nd rfl rfl (by decide) rfl rfl (pa_cons (pe_callB call_len_seq (by rfl) T.b_len (by decide +kernel) (pa_cons (pe_ix ix_list (pv 0) pe_int (fun _ _ => rfl)) pa_nil)) (pa_cons (pe_callB call_len_seq (by rfl) T.b_len (by decide +kernel) (pa_cons (pv 0) pa_nil)) pa_nil)) rfl)
  (pss_cons (ps_set (i := 4) sc_l_copied.nd rfl (Or.inl rfl) (pe_cl c_l_ends hr passL (pa_cons (pe_ix ix_tup (pv 1) pe_int (fun _ _ => rfl)) (pa_cons (pv 2) (pa_cons (pv 3) pa_nil)))))
  (pss_cons (ps_set (i := 5) sc_l_copied.nd rfl (Or.inl rfl) (pe_tup (pa_cons (pe_op op_sub (pe_cl c_l_at hr passL (pa_cons (pe_ix ix_tup (pv 1) pe_int (fun _ _ => rfl)) (pa_cons (pv 2) pa_nil))) (pe_ix ix_tup (pv 4) pe_int (fun _ _ => rfl))) (pa_cons (pe_op op_sub (pe_cl c_l_at hr passL (pa_cons (pe_ix ix_tup (pv 1) pe_int (fun _ _ => rfl)) (pa_cons (pv 3) pa_nil))) (pe_ix ix_tup (pv 4) pe_int (fun _ _ => rfl))) pa_nil))))
  (pss_cons (ps_setLc (i := 6) (own := [("_law_row", 10)]) (by rfl) sc_l_copied.nd rfl rfl (sw_true rfl rfl rfl (by decide +kernel)) (pi_list (pv 0)) (blkOk_by (own := [("_law_row", 10)]) (N := ["_law_grid", "_law_told", "_law_width", "_law_height", "_law_begin", "_law_by", "_law_found", "_law_x", "_law_y", "_law_line", "_law_row"]) (sc := defScope s_l_copied) (by decide +kernel)) (fun _ _ _ _ _ => (pg_name (i := 10) sc_l_copied.nd rfl (Or.inl rfl))) (fun _ _ _ _ _ => pts_nil) (fun _ _ _ _ _ => (pe_callTy (call_list_ofB (K := K)) (by rfl) T.b_list (by decide +kernel) (pa_cons (pv 10) pa_nil))))
  (pss_cons (ps_for PassesOwn.never rfl (pi_list (pe_cl c_l_within hr passL (pa_cons (pv 0) (pa_cons (pe_ix ix_tup (pv 1) pe_int (fun _ _ => rfl)) pa_nil)))) (pg_tup rfl (pgs_cons (pg_name (i := 7) sc_l_copied.nd rfl (Or.inl rfl)) (pgs_cons (pg_name (i := 8) sc_l_copied.nd rfl (Or.inl rfl)) pgs_nil)))
  (pss_one (ps_if (pt_val (pe_cl c_l_is_pixel hr passL (pa_cons (pv 0) (pa_cons (pe_op op_add (pv 7) (pe_ix ix_tup (pv 5) pe_int (fun _ _ => rfl))) (pa_cons (pe_op op_add (pv 8) (pe_ix ix_tup (pv 5) pe_int (fun _ _ => rfl))) pa_nil))))) (pss_cons (ps_set (i := 9) sc_l_copied.nd rfl (Or.inl rfl) (pe_ix ix_list (pv 6) (pe_op op_add (pv 8) (pe_ix ix_tup (pv 5) pe_int (fun _ _ => rfl))) (fun _ _ => rfl)))
  (pss_one (ps_asg (pe_ix ix_list (pe_ix ix_list (pv 0) (pv 8) (fun _ _ => rfl)) (pv 7) (fun _ _ => rfl)) (pg_sub (pv 9) (pe_op op_add (pv 7) (pe_ix ix_tup (pv 5) pe_int (fun _ _ => rfl))) set_list)))) pss_nil)))
  (pss_one (ps_ret (pv 6)))))))), ?_⟩
    try dsimp only [cxOf, Cx.nox, Cx.wish, List.map]
    have w1 := F.w1
    have w2 := F.w2
    have h1 := F.h1
    have h2 := F.h2
    obtain ⟨rs0, hg, gi, nd0⟩ := id g
    have lr0 : rs0.length = h0 := gi.len.trans G.h
    obtain ⟨ra, hra⟩ : ∃ ra, rs0[0]? = some ra := ⟨rs0[0]'(by omega), List.getElem?_eq_getElem _⟩
    obtain ⟨row, hrow, eRow⟩ := F2.get gi hra
    have rowl := G.w row (List.mem_of_getElem? hrow)
    obtain ⟨qb, qx, qy, ht, f, gx, gy⟩ := id tt
    walk_at "rd"
    refine use_ixL (SqL.of hg) (v := .ref ra) (atI_nat (j := 0) (by rw [List.getElem?_map, hra]; rfl)) ?_
    walk_at "rd"
    refine ⟨ra, row.map inum, rfl, .inl (SqL.of eRow), ?_⟩
    rw [List.length_map, rowl]
    walk_at "rd"
    refine ⟨ga, rs0.map V.ref, rfl, .inl (SqL.of hg), ?_⟩
    rw [List.length_map, lr0]
    walk_at "rd"
    refine use_ixT (SqT.of ht) (i := 1) rfl ?_
    walk_at "rd"
    refine ⟨qb, t0, t1, t2, t3, (w0 : Int), (h0 : Int), rfl, f, a0.sp.smP, a1.sp.smP, a2.sp.smP, a3.sp.smP, ⟨by omega, by omega⟩, ⟨by omega, by omega⟩, by omega, by omega, fun t H1 e1 s1 => ?_⟩
    obtain ⟨x0, x1, y0, y1, eb⟩ : ∃ x0 x1 y0 y1, bxV t0 t1 t2 t3 (w0 : Int) (h0 : Int) = [x0, x1, y0, y1] := ⟨_, _, _, _, rfl⟩
    rw [eb] at e1
    replace e1 : H1 t = some (.tup [.int x0, .int x1, .int y0, .int y1]) := e1
    have k := k _ _ _ _ eb
    walk_at "rd"
    refine use_ixT (SqT.of (s1 _ _ ht)) (i := 2) rfl ?_
    walk_at "rd"
    refine ⟨qx, tx, (w0 : Int), rfl, gx.same s1, ax.sp.smP, ⟨by omega, by omega⟩, by omega, ?_⟩
    walk_at "rd"
    refine use_ixT (SqT.of e1) (i := 0) rfl ?_
    walk_at "rd"
    refine use_ixT (SqT.of (s1 _ _ ht)) (i := 3) rfl ?_
    walk_at "rd"
    refine ⟨qy, ty, (h0 : Int), rfl, gy.same s1, ay.sp.smP, ⟨by omega, by omega⟩, by omega, ?_⟩
    walk_at "rd"
    refine use_ixT (SqT.of e1) (i := 2) rfl ?_
    walk_at "rd"
    obtain ⟨X, eX⟩ : ∃ X, plv tx.1 tx.2.1 tx.2.2 w0 = X := ⟨_, rfl⟩
    obtain ⟨Y, eY⟩ : ∃ Y, plv ty.1 ty.2.1 ty.2.2 h0 = Y := ⟨_, rfl⟩
    rw [eX, eY] at k ⊢
    refine new_tup (by show 2 ≤ 1000; decide) fun tb H2 n2 e2 s2 => ?_
    have s12 := s1.trans s2
    have hg2 := s12 _ _ hg
    have gi2 := gi.same s12
    walk_at "rd"
    refine ⟨ga, rfl, ⟨_, SqL.of hg2⟩, ?_⟩
    refine lc_lstW (walk_list (a := ga) (xs := rs0.map V.ref)) (fun j => (R.getD j []).map inum) (fun H' s => SqL.of (s _ _ hg2)) (by rw [List.length_map]; omega) (fun j xv A1 A2 QQ hj u1 yy kk => ?_) fun gl rs H6 n6 e6 g6 nd fr s6 => ?_
    · obtain ⟨rfl, ex⟩ := yy
      obtain ⟨ra', hra', rfl⟩ := map_get ex
      obtain ⟨row', hrow', eRow'⟩ := F2.get gi2 hra'
      have eRow' := u1 _ _ eRow'
      refine rd_gname ?_
      refine ⟨wipe1, ?_⟩
      walk_at "rd"
      refine ⟨ra', _, rfl, .inl (SqL.of eRow'), fun m nm => ?_⟩
      rw [show row' = R.getD j [] from by rw [List.getD_eq_getElem?_getD, hrow']; rfl]
      exact kk m _ nm upd_same (Same.new nm)
    rw [List.length_map, lr0] at g6
    have G6 : GI H6 rs R := gi_of (by
      rw [rows_map (f := fun r => r.map inum) G.h]
      exact g6)
    have s16 := s12.trans s6
    walk_at "rd"
    refine use_ixT (SqT.of (s16 _ _ ht)) (i := 1) rfl ?_
    walk_at "rd"
    refine ⟨ga, qb, R, w0, h0, t0, t1, t2, t3, rfl, g.same s16, G, F, f.same s16, a0, a1, a2, a3, fun z0 z1 z2 z3 ez l ts H7 nl hl Tm s7 => ?_⟩
    rw [eb] at ez
    obtain ⟨rfl, rfl, rfl, rfl⟩ : x0 = z0 ∧ x1 = z1 ∧ y0 = z2 ∧ y1 = z3 := by simpa using ez
    have s17 := s16.trans s7
    have G7 : GI H7 rs R := G6.same s7
    have e7 := s7 _ _ e6
    have lrs : rs.length = h0 := G7.len.trans G.h
    have nlr : l ∉ rs := fun m => by
      obtain ⟨i, hi, ei⟩ := List.mem_iff_getElem.mp m
      obtain ⟨r, _, er⟩ := F2.get G6 (List.getElem?_eq_getElem hi)
      rw [ei, nl] at er
      cases er
    have glr : gl ∉ rs := fun m => (fr gl m).2 rfl
    have sm : ∀ {H' : Hp}, (∀ a o, H7 a = some o → a ∉ rs → H' a = some o) → Same H2 H' := fun {H'} K a o e => K _ _ ((s6.trans s7) _ _ e) (fun m => by rw [(fr a m).1] at e; cases e)
    refine ⟨l, rfl, ⟨_, SqL.of hl⟩, for_list (K := K) (a := l) (xs := ts.map V.ref) (fun m σ H' => (∃ v7 v8 v9 : Option V, σ = [some (.ref ga), some (.ref q), some (.int (w0 : Int)), some (.int (h0 : Int)), some (.ref t), some (.ref tb), some (.ref gl), v7, v8, v9, none]) ∧ GI H' rs (paintV R (shL (X - x0) (Y - y0) w0 h0 ((winL x0 x1 y0 y1 w0 h0).take m)) (shV R (X - x0) (Y - y0))) ∧ ∀ a o, H7 a = some o → a ∉ rs → H' a = some o) ⟨⟨none, none, none, rfl⟩, G7, fun a o e _ => e⟩ ?_ ?_ ?_⟩
    · rintro m σ A1 _ ⟨_, _, K1⟩
      exact SqL.of (K1 _ _ hl nlr)
    · rintro m xv σ A2 hv ⟨⟨v7, v8, v9, rfl⟩, gA, K2⟩
      obtain ⟨tq, htq, rfl⟩ := map_get hv
      obtain ⟨q', eq, Tq⟩ := Tm.get htq
      have iq := win_ok _ (List.mem_of_getElem? eq)
      have e4 : (winL x0 x1 y0 y1 w0 h0).take (m + 1) = (winL x0 x1 y0 y1 w0 h0).take m ++ [q'] := by
        rw [List.take_add_one, eq]
        rfl
      obtain ⟨a, b⟩ := q'
      obtain ⟨qa, rfl⟩ : ∃ qa : Nat, a = (qa : Int) := ⟨a.toNat, by have := iq.1; simp only at this; omega⟩
      obtain ⟨qb', rfl⟩ : ∃ qb : Nat, b = (qb : Int) := ⟨b.toNat, by have := iq.2.2.1; simp only at this; omega⟩
      simp only at iq
      have Tq : H7 tq = some (.tup [.int (qa : Int), .int (qb' : Int)]) := Tq
      have tqr : tq ∉ rs := fun m => by
        obtain ⟨i, hi, ei⟩ := List.mem_iff_getElem.mp m
        obtain ⟨r, _, er⟩ := F2.get G7 (List.getElem?_eq_getElem hi)
        rw [ei, Tq] at er
        cases er
      have s2A := sm K2
      have sA := s12.trans s2A
      have e2A := s2A _ _ e2
      have eA := K2 _ _ e7 glr
      have GP : Good w0 h0 (paintV R (shL (X - x0) (Y - y0) w0 h0 ((winL x0 x1 y0 y1 w0 h0).take m)) (shV R (X - x0) (Y - y0))) := copyL_good G
      refine rd_gtup (SqT.of (K2 _ _ Tq tqr)) rfl ?_
      walk_at "rd"
      refine use_ixT (SqT.of e2A) (i := 0) rfl ?_
      walk_at "rd"
      refine use_ixT (SqT.of e2A) (i := 1) rfl ?_
      walk_at "rd"
      refine ⟨ga, R, w0, h0, _, _, rfl, g.same sA, G, F, _, rfl, ?_⟩
      refine ite_split (fun hr => ?_) (fun hr => ?_)
      · have hr1 := ins_iff.mp hr
        obtain ⟨ia, ea⟩ : ∃ ia : Nat, (qa : Int) + (X - x0) = ia := ⟨((qa : Int) + (X - x0)).toNat, by omega⟩
        obtain ⟨ib, eib⟩ : ∃ ib : Nat, (qb' : Int) + (Y - y0) = ib := ⟨((qb' : Int) + (Y - y0)).toNat, by omega⟩
        obtain ⟨rd, hrd⟩ : ∃ rd, rs[ib]? = some rd := ⟨rs[ib]'(by omega), List.getElem?_eq_getElem _⟩
        obtain ⟨rowd, hrowd, eRowd⟩ := F2.get gA hrd
        have rowdl := GP.w rowd (List.mem_of_getElem? hrowd)
        have growd : (paintV R (shL (X - x0) (Y - y0) w0 h0 ((winL x0 x1 y0 y1 w0 h0).take m)) (shV R (X - x0) (Y - y0))).getD ib [] = rowd := by rw [List.getD_eq_getElem?_getD, hrowd]; rfl
        obtain ⟨rz, hrz⟩ : ∃ rz, rs0[qb']? = some rz := ⟨rs0[qb']'(by omega), List.getElem?_eq_getElem _⟩
        obtain ⟨rowz, hrowz, eRowz⟩ := F2.get gi hrz
        have rowzl := G.w rowz (List.mem_of_getElem? hrowz)
        obtain ⟨dd, ed⟩ : ∃ dd, rowz[qa]? = some dd := ⟨rowz[qa]'(by omega), List.getElem?_eq_getElem _⟩
        walk_at "rd"
        refine use_ixT (SqT.of e2A) (i := 1) rfl ?_
        walk_at "rd"
        rw [eib]
        refine use_ixL (SqL.of eA) (v := .ref rd) (atI_nat (j := ib) (by rw [List.getElem?_map, hrd]; rfl)) ?_
        walk_at "rd"
        refine use_ixL (SqL.of (sA _ _ hg)) (v := .ref rz) (atI_nat (j := qb') (by rw [List.getElem?_map, hrz]; rfl)) ?_
        walk_at "rd"
        refine use_ixL (SqL.of (sA _ _ eRowz)) (v := inum dd) (atI_nat (j := qa) (by rw [List.getElem?_map, ed]; rfl)) ?_
        walk_at "rd"
        refine use_ixT (SqT.of e2A) (i := 0) rfl ?_
        walk_at "rd"
        rw [ea]
        refine use_setL (j := ia) eRowd (by rw [List.length_map, rowdl]; unfold ixN; rw [if_pos (by omega), if_pos (by omega)]; rfl) ?_
        have rm := List.mem_of_getElem? hrd
        have fin := GI.set (i := ia) (j := ib) (d := dd) gA nd hrd
        rw [growd] at fin
        refine ⟨⟨_, _, _, rfl⟩, ?_, fun a o e n => ?_⟩
        · rw [e4, shL_snoc, if_pos hr, paintV_snoc, shV_at, ea, eib, show px R qb' qa = dd from by unfold px; rw [List.getD_eq_getElem?_getD (l := R), hrowz]; show rowz.getD qa 0 = dd; rw [List.getD_eq_getElem?_getD, ed]; rfl, show (rowd.map inum).set ia (inum dd) = (rowd.set ia dd).map inum from by rw [List.map_set]]
          exact fin
        · rw [upd_ne (fun z => n (by rw [z]; exact rm))]
          exact K2 _ _ e n
      · walk_at "rd"
        refine ⟨⟨_, _, _, rfl⟩, ?_, K2⟩
        rw [e4, shL_snoc, if_neg (by show ¬ insideB w0 h0 ((qa : Int) + (X - x0)) ((qb' : Int) + (Y - y0)) = true; rw [hr]; decide)]
        exact gA
    · rintro σ A1 ⟨⟨v7, v8, v9, rfl⟩, gA, K1⟩
      rw [List.take_of_length_le (by rw [List.length_map, Tm.len]; exact Nat.le_refl _)] at gA
      walk_at "rd"
      exact k gl A1 (same_back s12 n6) ⟨rs, K1 _ _ e7 glr, gA, nd⟩ (s12.trans (sm K1))
end
open PySem PySem.Spec PyProof.Rows L2 Hf
section
variable {P : Program} {w : World} {K : PySem.W.Frag} {mg : Str → Option Value} {base : Heap}
theorem ok_l_lines (T : Txt K mg) (D : DefAt K mg "_law_lines" s_l_lines ["_law_grid"]) : Cal P w K mg base 1 "_law_lines" spLLines36 := by
  obtain ⟨f, fd, hm, F, b⟩ := D
  refine ⟨f, fnR0 F b sc_l_lines (fun vs H Q E h => ?_) (fun cdv A outer s H vs Q E hr h => ?_), hm, F.kp⟩
  · obtain ⟨ga, R, w0, h0, rfl, g, G, F, k⟩ := h
    rfl
  · obtain ⟨ga, R, w0, h0, rfl, g, G, F, k⟩ := h
    have hu := hu_of hr
    refine ⟨_, (pss_one (ps_ret (pe_callTy call_tuple_of (by rfl) T.b_tuple (by decide +kernel) (pa_cons (pe_lc (own := [("_law_row", 1)]) (by rfl) sc_l_lines.nd (pi_list (pv 0)) (blkOk_by (own := [("_law_row", 1)]) (N := ["_law_grid", "_law_row", "_law_one"]) (sc := defScope s_l_lines) (by decide +kernel)) (fun _ _ _ _ _ => (pg_name (i := 1) sc_l_lines.nd rfl (Or.inl rfl))) (fun _ _ _ _ _ => pts_nil) (fun _ _ _ _ _ => (pe_m1 PySem.F.slot_str_join PySem.F.type_str_join (mt_joinB (K := K)) pe_str (pe_lc (own := [("_law_one", 2)]) (by rfl) sc_l_lines.nd (pi_listB (K := K) (pv 1)) (blkOk_by (own := [("_law_one", 2)]) (N := ["_law_grid", "_law_row", "_law_one"]) (by first | rfl | kernel_rfl)) (fun _ _ _ _ _ => (pg_name (i := 2) sc_l_lines.nd rfl (Or.inl rfl))) (fun _ _ _ _ _ => pts_nil) (fun _ _ _ _ _ => (pe_callTy call_str_int (by rfl) T.b_str (by decide +kernel) (pa_cons (pv 2) pa_nil))))))) pa_nil)))), ?_⟩
    try dsimp only [cxOf, Cx.nox, Cx.wish, List.map]
    have w1 := F.w1
    have w2 := F.w2
    have h1 := F.h1
    have h2 := F.h2
    obtain ⟨rs0, hg, gi, nd0⟩ := id g
    have lr0 : rs0.length = h0 := gi.len.trans G.h
    walk_at "rd"
    refine ⟨ga, rfl, ⟨_, SqL.of hg⟩, ?_⟩
    refine lc_mapW (walk_list (a := ga) (xs := rs0.map V.ref)) (fun j => rowV (R.getD j [])) (fun H' s => SqL.of (s _ _ hg)) (by rw [List.length_map]; omega) (fun j xv A1 A2 QQ hj u1 yy kk => ?_) fun D H1 nD eD sD => ?_
    · obtain ⟨rfl, ex⟩ := yy
      obtain ⟨ra, era, rfl⟩ := map_get ex
      obtain ⟨row, erow, hra⟩ := F2.get (gi.same u1) era
      have rl := G.w row (List.mem_of_getElem? erow)
      have rd10 := G.d row (List.mem_of_getElem? erow)
      rw [show R.getD j [] = row from by rw [List.getD_eq_getElem?_getD, erow]; rfl] at kk
      refine rd_gname ?_
      refine ⟨wipe1, ?_⟩
      refine rd_m1 ?_
      walk_at "rd"
      refine ⟨⟨_, rfl⟩, ?_⟩
      walk_at "rd"
      refine ⟨ra, rfl, ⟨_, SqL.of hra⟩, ?_⟩
      refine lc_mapW (walk_list (a := ra) (xs := row.map inum)) (fun i => rowV [row.getD i 0]) (fun H' s => SqL.of (s _ _ hra)) (by rw [List.length_map]; omega) (fun i xv B1 B2 Q2 hi v1 zz k2 => ?_) fun D2 B2 nD2 eD2 sD2 => ?_
      · obtain ⟨rfl, ey⟩ := zz
        obtain ⟨d, ed, rfl⟩ := map_get ey
        have d10 := rd10 d (List.mem_of_getElem? ed)
        rw [show row.getD i 0 = d from by rw [List.getD_eq_getElem?_getD, ed]; rfl] at k2
        refine rd_gname ?_
        refine ⟨wipe1, ?_⟩
        walk_at "rd"
        refine ⟨(d : Int), rfl, sm_log ⟨by omega, by omega⟩, ?_⟩
        rw [row_str (by omega) (by omega), Int.toNat_natCast]
        exact k2 _ (Same.refl _)
      have er : (List.range (row.map inum).length).map (fun i => rowV [row.getD i 0]) = ((row.map fun d => [d]).map rowS).map V.str := by
        rw [List.length_map]
        have := range_map0 0 (fun d => rowV [d]) row
        rw [this, List.map_map, List.map_map]
        rfl
      rw [er] at eD2
      refine ⟨_, D2, _, rfl, rfl, .inl (SqL.of eD2), ?_, ?_⟩
      · rw [row_sum, flat_one, row_empty, row_len, List.length_nil, Nat.mul_zero]
        omega
      rw [row_join, flat_one]
      exact kk _ sD2
    have eD1 : H1 D = some (.lst (R.map rowV)) := by
      rw [eD, List.length_map, lr0, ← G.h]
      congr 2
      exact range_map0 [] rowV R
    walk_at "rd"
    refine ⟨D, _, rfl, .inl ⟨SqL.of eD1, fun t nt => ?_⟩⟩
    exact k t _ upd_same (sD.trans (Same.new nt))
end
open PySem PySem.Spec PyProof.Rows L2 Hf
section
variable {P : Program} {w : World} {K : PySem.W.Frag} {mg : Str → Option Value} {base : Heap}
theorem ok_l_noise {CV CE CB : Addr} (T : Txt K mg) (V0 : CvC K mg CV) (c_l_draw : Cal P w K mg base 1 "_law_draw" spPDraw) (c_l_spots : Cal P w K mg base 1 "_law_spots" spLSpots) (m_set : Met P w K mg base 5 CV "__setitem__" (spCvSet K CV CE CB)) (nsq : PySem.W.noSeq K CV = true) (D : DefAt K mg "_law_noise" s_l_noise ["_law_pen_here", "_law_canvas"]) : Cal P w K mg base 6 "_law_noise" (spLNoise CV) := by
  obtain ⟨f, fd, hm, F, b⟩ := D
  refine ⟨f, fnR0 F b sc_l_noise (fun vs H Q E h => ?_) (fun cdv A outer s H vs Q E hr h => ?_), hm, F.kp⟩
  · obtain ⟨b, c, p, kk, w0, h0, R, rfl, x, F, P, k⟩ := h
    rfl
  · obtain ⟨b, c, p, kk, w0, h0, R, rfl, x, F, P, k⟩ := h
    have hu := hu_of hr
    refine ⟨_, (pss_cons (ps_set (i := 2) sc_l_noise.nd rfl (Or.inl rfl) (pe_lst pa_nil))
  (pss_cons (ps_for PassesOwn.never rfl (pi_range1 rfl T.b_range (pa_cons (pe_fld (pv 1) rfl) pa_nil)) (pg_name (i := 3) sc_l_noise.nd rfl (Or.inl rfl))
  (pss_one (ps_expr (pe_bm PySem.F.plainAttrs_list PySem.F.slot_list_append PySem.F.type_list_append mt_append (pv 2) (pa_cons (pe_lc (own := [("_law_x", 4)]) (by rfl) sc_l_noise.nd (pi_range1 rfl T.b_range (pa_cons (pe_fld (pv 1) rfl) pa_nil)) (blkOk_by (own := [("_law_x", 4)]) (N := ["_law_pen_here", "_law_canvas", "_law_rows", "_law_y", "_law_x"]) (sc := defScope s_l_noise) (by decide +kernel)) (fun _ _ _ _ _ => (pg_name (i := 4) sc_l_noise.nd rfl (Or.inl rfl))) (fun _ _ _ _ _ => pts_nil) (fun _ _ _ _ _ => (pe_cl c_l_draw hr passL (pa_cons (pv 0) (pa_cons pe_int pa_nil))))) pa_nil)))))
  (pss_cons (ps_for PassesOwn.never rfl (pi_list (pe_cl c_l_spots hr passL (pa_cons (pv 2) pa_nil))) (pg_tup rfl (pgs_cons (pg_name (i := 4) sc_l_noise.nd rfl (Or.inl rfl)) (pgs_cons (pg_name (i := 3) sc_l_noise.nd rfl (Or.inl rfl)) pgs_nil)))
  (pss_one (ps_asg (pe_ix ix_list (pe_ix ix_list (pv 2) (pv 3) (fun _ _ => rfl)) (pv 4) (fun _ _ => rfl)) (pg_sub (pv 1) (pe_tup (pa_cons (pv 4) (pa_cons (pv 3) pa_nil))) (set_own nsq m_set hr passL)))))
  (pss_one (ps_ret (pv 2)))))), ?_⟩
    try dsimp only [cxOf, Cx.nox, Cx.wish, List.map]
    have w1 := F.w1
    have w2 := F.w2
    have h1 := F.h1
    have h2 := F.h2
    obtain ⟨dc, l, hc, hl⟩ := id x.at_
    walk_at "rd"
    refine new_lst (by show 0 ≤ 1000; decide) fun fo H1 n1 e1 s1 => ?_
    walk_at "rd"
    refine rd_fldK (s1 _ _ hc) V0.cl V0.n2 cv_height ?_
    walk_at "rd"
    refine ⟨(h0 : Int), rfl, by omega, by omega, ?_⟩
    rw [Int.toNat_natCast]
    have nfo := P.ne n1
    have fb : fo ≠ b := nfo.1
    have x1 := x.same s1
    have P1 := P.same s1
    refine for_range (n := h0) (fun m σ H' => (∃ v3 v4 : Option V, σ = [some (.ref b), some (.ref p), some (.ref fo), v3, v4]) ∧ (∃ (rs : List Addr) (S : Pic), H' fo = some (.lst (rs.map V.ref)) ∧ GI H' rs S ∧ rs.Nodup ∧ Good w0 m S) ∧ Pen H' b c (kk + (h0 - m) * w0) ∧ CvG CV H' p w0 h0 R ∧ fo ≠ b) ⟨⟨none, none, rfl⟩, ⟨[], [], e1, .nil, List.nodup_nil, good_nil⟩, by rw [Nat.sub_zero]; exact P1, x1, fb⟩ ?_ ?_
    · rintro m σ A1 hm ⟨⟨v3, v4, rfl⟩, ⟨rs, S, eu, gi, nd, GS⟩, PA, xA, _⟩
      refine rd_gname ?_
      walk_at "rd"
      refine is_lst eu ?_
      obtain ⟨dcA, lA, hcA, hlA⟩ := id xA.at_
      walk_at "rd"
      refine rd_fldK hcA V0.cl V0.n1 cv_width ?_
      walk_at "rd"
      refine ⟨(w0 : Int), rfl, by omega, by omega, ?_⟩
      rw [Int.toNat_natCast]
      rw [show h0 - m = (h0 - (m + 1)) + 1 from by omega, Nat.succ_mul] at PA
      obtain ⟨Z, eZ⟩ : ∃ Z, (h0 - (m + 1)) * w0 = Z := ⟨_, rfl⟩
      rw [eZ] at PA
      obtain ⟨cs, ni, nr, pb, pc, _⟩ := id PA
      refine lc_drawn (n := w0) (b := b) (fun j H' => Pen H' b c (kk + Z + (w0 - j)) ∧ Keep b A1 H') (fun y => ∃ d : Nat, y = inum d ∧ d < 10) (by omega) ⟨_, pb⟩ ⟨PA.less (by omega), Keep.refl⟩ (fun _ _ q => q.2) (fun j D H' ys hD q => ?_) (fun j A2 R9 hj q kk9 => ?_) fun D ys A2 nD eD lD pD q => ?_
      · obtain ⟨q1, q2⟩ := q
        have d1 : D ≠ b := (ne_of_none pb hD).symm
        have d2 : D ≠ c := (ne_of_none pc hD).symm
        exact ⟨q1.keep Keep.upd d1 d2, fun a o ha hab => by
          rw [upd_ne (ne_of_none ha hD)]
          exact q2 a o ha hab⟩
      · obtain ⟨q1, q2⟩ := q
        walk_at "rd"
        refine use_pd (k := kk + Z + (w0 - (j + 1))) (q1.less (by omega)) (by decide) (by decide) fun i A3 i0 i9 P3 k3 => ?_
        exact kk9 _ A3 ⟨i.toNat, congrArg V.int (Int.toNat_of_nonneg i0).symm, by omega⟩ ⟨P3, q2.trans k3⟩ k3
      · obtain ⟨q1, q2⟩ := q
        obtain ⟨r, rfl, lr, hr⟩ := items_num pD
        have eu2 := q2 _ _ eu fb
        have gi2 := gi.pen PA q2
        have x2 := xA.pen PA q2
        have Dfo : D ≠ fo := (ne_of_none eu nD).symm
        walk_at "rd"
        refine ⟨fo, _, _, rfl, rfl, eu2, by rw [List.length_map, gi.len, GS.h]; exact small1000 (by omega), ⟨_, _, rfl⟩, ⟨rs ++ [D], S ++ [r], by rw [upd_same, List.map_append]; rfl, ?_, ?_, GS.snoc (by rw [lr, lD]) hr⟩, ?_, x2.putR h1 eu2, fb⟩
        · exact (GI.putR gi2 eu2).append (.cons (by rw [upd_ne Dfo]; exact eD) .nil)
        · refine List.nodup_append.mpr ⟨nd, by simp, fun a ha b' hb' => ?_⟩
          rw [List.mem_singleton.mp hb']
          intro z
          obtain ⟨i, hi, ei⟩ := List.mem_iff_getElem.mp ha
          obtain ⟨row, _, er⟩ := F2.get gi (List.getElem?_eq_getElem hi)
          rw [ei, z, nD] at er
          cases er
        · rw [eZ]
          exact (q1.less (by omega)).keep Keep.upd nfo.1 nfo.2
    · rintro σ A1 ⟨⟨v3, v4, rfl⟩, ⟨rs, S, eu, gi, nd, GS⟩, PA, xA, _⟩
      rw [Nat.sub_self, Nat.zero_mul] at PA
      have G := xA.g
      walk_at "rd"
      refine ⟨fo, S, w0, h0, rfl, ⟨rs, eu, gi, nd⟩, GS, F, fun l ts A2 hl Tm s2 => ?_⟩
      have x2 := xA.same s2
      obtain ⟨d2, l2, hp2, hl2⟩ := id x2.at_
      have lp : l ≠ p := fun z => by rw [z, hp2] at hl; cases hl
      have eu2 := s2 _ _ eu
      have gi2 := gi.same s2
      have fop : fo ≠ p := fun z => by rw [z, hp2] at eu2; cases eu2
      refine ⟨l, rfl, ⟨_, SqL.of hl⟩, for_list (K := K) (a := l) (xs := ts.map V.ref) (fun m σ H' => (∃ v3 v4 : Option V, σ = [some (.ref b), some (.ref p), some (.ref fo), v3, v4]) ∧ CvG CV H' p w0 h0 (paintV R ((boxP 0 w0 0 h0).take m) (fun q => px S q.2.toNat q.1.toNat)) ∧ Keep p A2 H') ⟨⟨_, _, rfl⟩, x2, Keep.refl⟩ ?_ ?_ ?_⟩
      · rintro m σ A3 _ ⟨_, _, K3⟩
        exact SqL.of (K3 _ _ hl lp)
      · rintro m xv σ A3 hv ⟨⟨v3, v4, rfl⟩, x3, K3⟩
        obtain ⟨tq, htq, rfl⟩ := map_get hv
        obtain ⟨q', eq, Tq⟩ := Tm.get htq
        have iq := boxP_mem.mp (List.mem_of_getElem? eq)
        have e4 : (boxP 0 w0 0 h0).take (m + 1) = (boxP 0 w0 0 h0).take m ++ [q'] := by
          rw [List.take_add_one, eq]
          rfl
        obtain ⟨a, b'⟩ := q'
        obtain ⟨qa, rfl⟩ : ∃ qa : Nat, a = (qa : Int) := ⟨a.toNat, by have := iq.1; simp only at this; omega⟩
        obtain ⟨qb, rfl⟩ : ∃ qb : Nat, b' = (qb : Int) := ⟨b'.toNat, by have := iq.2.2.1; simp only at this; omega⟩
        simp only at iq
        have Tq : A2 tq = some (.tup [.int (qa : Int), .int (qb : Int)]) := Tq
        have tqp : tq ≠ p := fun z => by rw [z, hp2] at Tq; cases Tq
        obtain ⟨rz, hrz⟩ : ∃ rz, rs[qb]? = some rz := ⟨rs[qb]'(by have := gi.len; have := GS.h; omega), List.getElem?_eq_getElem _⟩
        obtain ⟨rowz, hrowz, eRowz⟩ := F2.get gi2 hrz
        have rzp : rz ≠ p := fun z => by rw [z, hp2] at eRowz; cases eRowz
        have rowzl := GS.w rowz (List.mem_of_getElem? hrowz)
        obtain ⟨dd, ed⟩ : ∃ dd, rowz[qa]? = some dd := ⟨rowz[qa]'(by omega), List.getElem?_eq_getElem _⟩
        have d10 := GS.d rowz (List.mem_of_getElem? hrowz) dd (List.mem_of_getElem? ed)
        refine rd_gtup (SqT.of (K3 _ _ Tq tqp)) rfl ?_
        walk_at "rd"
        refine use_ixL (SqL.of (K3 _ _ eu2 fop)) (v := .ref rz) (atI_nat (j := qb) (by rw [List.getElem?_map, hrz]; rfl)) ?_
        walk_at "rd"
        refine use_ixL (SqL.of (K3 _ _ eRowz rzp)) (v := inum dd) (atI_nat (j := qa) (by rw [List.getElem?_map, ed]; rfl)) ?_
        walk_at "rd"
        refine new_tup (by show 2 ≤ 1000; decide) fun t7 A7 n7 e7 s7 => ?_
        refine use_cvSet (i := qa) (j := qb) (x3.same s7) F e7 (by omega) (by omega) (by omega) (by omega) fun A8 g8 k8 => ?_
        refine ⟨⟨_, _, rfl⟩, ?_, K3.trans ((Keep.of s7).trans k8)⟩
        rw [e4, paintV_snoc, show px S ((qb : Int)).toNat ((qa : Int)).toNat = dd from by rw [Int.toNat_natCast, Int.toNat_natCast]; unfold px; rw [List.getD_eq_getElem?_getD (l := S), hrowz]; show rowz.getD qa 0 = dd; rw [List.getD_eq_getElem?_getD, ed]; rfl]
        exact g8
      · rintro σ A3 ⟨⟨v3, v4, rfl⟩, x3, K3⟩
        rw [List.take_of_length_le (by rw [List.length_map, Tm.len]; exact Nat.le_refl _), paint_whole G GS] at x3
        walk_at "rd"
        have gr : GrG A2 fo S := ⟨rs, eu2, gi2, nd⟩
        exact k fo S A3 x3 (gr.cv x2 K3) (x2.penC (PA.same s2) K3)
end
open PySem PySem.Spec PyProof.Rows L2 Hf
section
variable {P : Program} {w : World} {K : PySem.W.Frag} {mg : Str → Option Value} {base : Heap}
theorem ok_l_near (T : Txt K mg) (c_l_draw : Cal P w K mg base 1 "_law_draw" spPDraw) (c_l_place : Cal P w K mg base 3 "_law_place" spLPlT) (D : DefAt K mg "_law_near" s_l_near ["_law_pen_here", "_law_box_here"]) : Cal P w K mg base 4 "_law_near" spLNearC := by
  obtain ⟨f, fd, hm, F, b⟩ := D
  refine ⟨f, fnR0 F b sc_l_near (fun vs H Q E h => ?_) (fun cdv A outer s H vs Q E hr h => ?_), hm, F.kp⟩
  · obtain ⟨b, c, q, kk, t0, t1, t2, t3, rfl, f, a0, a1, a2, a3, P, k⟩ := h
    rfl
  · obtain ⟨b, c, q, kk, t0, t1, t2, t3, rfl, f, a0, a1, a2, a3, P, k⟩ := h
    have hu := hu_of hr
    refine ⟨_, (pss_cons (ps_if (pt_cmpR op_eq (pe_cl c_l_draw hr passL (pa_cons (pv 0) (pa_cons pe_int pa_nil))) pe_int (nomark _)) (pss_one (ps_ret (pe_tup (pa_cons (pe_cl c_l_place hr passL (pa_cons (pv 0) pa_nil)) (pa_cons (pe_cl c_l_place hr passL (pa_cons (pv 0) pa_nil)) pa_nil))))) pss_nil)
  (pss_cons (ps_set (i := 2) sc_l_near.nd rfl (Or.inl rfl) (pe_lst pa_nil))
  (pss_cons (ps_for PassesOwn.never rfl (pi_tup (pe_tup (pa_cons (pe_ix ix_tup (pv 1) pe_int (fun _ _ => rfl)) (pa_cons (pe_ix ix_tup (pv 1) pe_int (fun _ _ => rfl)) pa_nil)))) (pg_name (i := 3) sc_l_near.nd rfl (Or.inl rfl))
  (pss_one (ps_expr (pe_bm PySem.F.plainAttrs_list PySem.F.slot_list_append PySem.F.type_list_append mt_append (pv 2) (pa_cons (pe_tup (pa_cons (pe_ix ix_tup (pv 3) pe_int (fun _ _ => rfl)) (pa_cons (pe_op op_sub (pe_op op_add (pe_ix ix_tup (pv 3) pe_int (fun _ _ => rfl)) (pe_cl c_l_draw hr passL (pa_cons (pv 0) (pa_cons pe_int pa_nil)))) pe_int) (pa_cons (pe_ix ix_tup (pv 3) pe_int (fun _ _ => rfl)) pa_nil)))) pa_nil)))))
  (pss_one (ps_ret (pe_tup (pa_cons (pe_ix ix_list (pv 2) pe_int (fun _ _ => rfl)) (pa_cons (pe_ix ix_list (pv 2) pe_int (fun _ _ => rfl)) pa_nil)))))))), ?_⟩
    try dsimp only [cxOf, Cx.nox, Cx.wish, List.map]
    walk_at "rd"
    refine use_pd (k := kk + 4) P (by decide) (by decide) fun i H1 a1' b1 P1 k1 => ?_
    walk_at "rd"
    refine ite_split (fun _ => ?_) (fun _ => ?_)
    · walk_at "rd"
      refine ⟨b, c, kk + 2, rfl, P1, fun qx tx H2 gx nx P2 k2 => ?_⟩
      walk_at "rd"
      refine ⟨b, c, kk, rfl, P2, fun qy ty H3 gy ny P3 k3 => ?_⟩
      walk_at "rd"
      refine new_tup (by show 2 ≤ 1000; decide) fun t H4 n4 e4 s4 => ?_
      exact k t qx qy tx ty H4 e4 ((gx.penK P2 k3).same s4) (gy.same s4) (.of nx) (.of ny) (P3.same s4) (k1.trans (k2.trans (k3.trans (Keep.of s4))))
    · have f1 := f.pen P k1
      obtain ⟨q0, q1, q2, q3, hq, g0, g1, g2, g3⟩ := id f1
      obtain ⟨cs, hb⟩ := id P.lst
      have hb0 := hb
      obtain ⟨cs1, hb1⟩ := id P1.lst
      walk_at "rd"
      refine new_lst (by show 0 ≤ 1000; decide) fun fo H2 n2 e2 s2 => ?_
      have nfo := P1.ne n2
      have fb : fo ≠ b := nfo.1
      have P2 := P1.same s2
      have hq2 := s2 _ _ hq
      walk_at "rd"
      refine use_ixT (SqT.of hq2) (i := 0) rfl ?_
      walk_at "rd"
      refine use_ixT (SqT.of hq2) (i := 2) rfl ?_
      walk_at "rd"
      refine new_tup (by show 2 ≤ 1000; decide) fun tt H3 n3 e3 s3 => ?_
      refine ⟨tt, rfl, ⟨_, SqT.of e3⟩, ?_⟩
      have e23 := s3 _ _ e2
      have S3 := s2.trans s3
      have ttb : tt ≠ b := fun z => by
        obtain ⟨xs, hb3⟩ := (P2.same s3).lst
        rw [z, hb3] at e3
        cases e3
      have ttf : tt ≠ fo := fun z => by rw [z, e23] at e3; cases e3
      have g0' : TAt H3 q0 t0 := g0.same S3
      have g2' : TAt H3 q2 t2 := g2.same S3
      refine for_it (walk_tup (K := K) (a := tt) (xs := [.ref q0, .ref q2])) (fun i σ H' => (∃ (us : List Addr) (zs : List P3) (v3 : Option V), σ = [some (.ref b), some (.ref q), some (.ref fo), v3] ∧ H' fo = some (.lst (us.map V.ref)) ∧ F2 (TAt H') us zs ∧ (∀ z ∈ zs, FarP z) ∧ us.length = i) ∧ Pen H' b c (kk + 4 - i) ∧ ∀ a o, H3 a = some o → a ≠ b → a ≠ fo → H' a = some o) ⟨⟨[], [], none, rfl, e23, .nil, (fun z hz => (List.not_mem_nil hz).elim), rfl⟩, P2.same s3, fun a o e _ _ => e⟩ (fun i σ H' _ z => SqT.of (z.2.2 _ _ e3 ttb ttf)) ?_ ?_
      · rintro i xv σ A1 A2 hi ⟨⟨us, zs, v3, rfl, eu, fu, fz, lu⟩, PA, KA⟩ ⟨rfl, ex⟩
        have li : i < 2 := hi
        obtain ⟨qq, tq, rfl, gq, nq⟩ : ∃ (qq : Addr) (tq : P3), xv = .ref qq ∧ TAt A2 qq tq ∧ NearP tq := by
          have tr : ∀ {qq : Addr} {tq : P3}, TAt H3 qq tq → TAt A2 qq tq := fun {qq tq} g => by
            obtain ⟨xs, hb3⟩ := (P2.same s3).lst
            exact KA _ _ g (TAt.ne g hb3) (TAt.ne g e23)
          match i, ex with
          | 0, ex => cases ex; exact ⟨q0, t0, rfl, tr g0', a0⟩
          | 1, ex => cases ex; exact ⟨q2, t2, rfl, tr g2', a2⟩
          | i + 2, ex => simp at ex
        have gq' : A2 qq = some (.tup [.int tq.1, .int tq.2.1, .int tq.2.2]) := gq
        refine rd_gname ?_
        walk_at "rd"
        refine is_lst eu ?_
        walk_at "rd"
        refine use_ixT (SqT.of gq') (i := 0) rfl ?_
        walk_at "rd"
        refine use_ixT (SqT.of gq') (i := 1) rfl ?_
        walk_at "rd"
        refine use_pd (k := kk + 4 - i - 1) (PA.less (by omega)) (by decide) (by decide) fun d A3 d0 d9 P3 k3 => ?_
        have gq3 : A3 qq = some (.tup [.int tq.1, .int tq.2.1, .int tq.2.2]) := TAt.penK gq PA k3
        have eu3 := k3 _ _ eu fb
        walk_at "rd"
        refine use_ixT (SqT.of gq3) (i := 2) rfl ?_
        walk_at "rd"
        refine new_tup (by show 3 ≤ 1000; decide) fun t4 A4 n4 e4 s4 => ?_
        have eu4 := s4 _ _ eu3
        obtain ⟨q1, q2, q3⟩ := nq
        refine ⟨fo, _, _, rfl, rfl, eu4, by rw [List.length_map, lu]; exact small1000 (by omega), ⟨us ++ [t4], zs ++ [(tq.1, tq.2.1 + d - 2, tq.2.2)], _, rfl, by rw [upd_same, List.map_append]; rfl, ?_, ?_, by rw [List.length_append, lu]; rfl⟩, ?_, ?_⟩
        · refine F2.append (F2.imp (fun a z g => ?_) fu) (.cons ?_ .nil)
          · have g4 : TAt A4 a z := (TAt.penK g PA k3).same s4
            show upd A4 fo _ a = _
            rw [upd_ne (tat_ne g4 eu4)]
            exact g4
          · show upd A4 fo _ t4 = _
            rw [upd_ne (fun z => by rw [z, eu4] at e4; cases e4)]
            exact e4
        · intro z hz
          rcases List.mem_append.mp hz with hz | hz
          · exact fz z hz
          · rw [List.mem_singleton.mp hz]
            exact ⟨by show tq.1.natAbs ≤ _; omega, by show (tq.2.1 + d - 2).natAbs ≤ _; omega, by show tq.2.2.natAbs ≤ _; omega⟩
        · exact ((P3.same s4).less (by omega)).keep Keep.upd nfo.1 nfo.2
        · intro a o e na nf
          rw [upd_ne nf]
          exact s4 _ _ (k3 _ _ (KA a o e na nf) na)
      · rintro σ A1 ⟨⟨us, zs, v3, rfl, eu, fu, fz, lu⟩, PA, KA⟩
        obtain ⟨u0, u1, rfl⟩ : ∃ u0 u1, us = [u0, u1] := by
          match us, lu with
          | [u0, u1], _ => exact ⟨u0, u1, rfl⟩
        cases fu with
        | cons f0 fu =>
          cases fu with
          | cons f1' fu =>
            cases fu
            walk_at "rd"
            refine use_ixL (SqL.of eu) (v := .ref u0) (atI_nat (j := 0) rfl) ?_
            walk_at "rd"
            refine use_ixL (SqL.of eu) (v := .ref u1) (atI_nat (j := 1) rfl) ?_
            walk_at "rd"
            refine new_tup (by show 2 ≤ 1000; decide) fun t5 A5 n5 e5 s5 => ?_
            exact k t5 u0 u1 _ _ A5 e5 (f0.same s5) (f1'.same s5) (fz _ List.mem_cons_self) (fz _ (List.mem_cons_of_mem _ List.mem_cons_self)) (PA.same s5 |>.less (by show kk ≤ kk + 4 - 2; omega)) (fun a o e na => s5 _ _ (KA _ _ (S3 _ _ (k1 _ _ e na)) na (fun z => by
              have := k1 _ _ e na
              rw [z, n2] at this
              cases this)))
end
open PySem PySem.Spec PyProof.Rows L2 Hf
section
variable {P : Program} {w : World} {K : PySem.W.Frag} {mg : Str → Option Value} {base : Heap}
theorem ok_law {CV CP C CX CO : Addr} (T : Txt K mg) (V0 : CvC K mg CV) (C0 : PcC K mg CP "DIGITS_pictures") (D0 : DfC K CO "box" "x" "y" "is_deed") (c_l_draw : Cal P w K mg base 1 "_law_draw" spPDraw) (c_l_pen : Cal P w K mg base 1 "_law_pen" (spPen K)) (c_l_box : Cal P w K mg base 4 "_law_box" (spLBoxN 10)) (c_l_noise : Cal P w K mg base 6 "_law_noise" (spLNoise CV)) (c_l_near : Cal P w K mg base 4 "_law_near" spLNearC) (c_l_built : Cal P w K mg base 11 "_law_built" (spLBuiltC C CX CO)) (c_l_copied : Cal P w K mg base 4 "_law_copied" spLCopied) (c_l_lines : Cal P w K mg base 1 "_law_lines" spLLines36) (M_Canvas : Mak P w K mg base 3 "Canvas" CV (spCvI CV)) (m_pict : Met P w K mg base 5 CV "picture" (spShown CV CP)) (m_on : Met P w K mg base 10 CO "on" (spCopyOn C CX CO CV)) {f : Addr} {fd : FuncData} (F : Fun K "law" "law" s_law f fd) (b : Binds K fd ["_law_script"] []) : FnG P w K mg base (L2.CX P w) 12 f (spLaw K) := by
  refine fnG0 F b sc_law (fun vs H Q E h => ?_) (fun cdv A outer s H vs Q E hr hgd h => ?_)
  · obtain ⟨a, ns, rfl, _⟩ := h
    rfl
  · obtain ⟨a, ns, rfl, hS, hlen, k⟩ := h
    have hu := hu_of hr
    refine ⟨_, (pss_cons (ps_set (i := 1) sc_law.nd rfl (Or.inl rfl) (pe_cl c_l_pen hr passL (pa_cons (pv 0) pa_nil)))
  (pss_cons (ps_for PassesOwn.never rfl (pi_range1 rfl T.b_range (pa_cons pe_int pa_nil)) (pg_name (i := 2) sc_law.nd rfl (Or.inl rfl))
  (pss_cons (ps_set (i := 3) sc_law.nd rfl (Or.inl rfl) (pe_ma M_Canvas hr passL (pa_cons (pe_op op_add pe_int (pe_cl c_l_draw hr passL (pa_cons (pv 1) (pa_cons pe_int pa_nil)))) (pa_cons (pe_op op_add pe_int (pe_cl c_l_draw hr passL (pa_cons (pv 1) (pa_cons pe_int pa_nil)))) pa_nil))))
  (pss_cons (ps_set (i := 4) sc_law.nd rfl (Or.inl rfl) (pe_cl c_l_noise hr passL (pa_cons (pv 1) (pa_cons (pv 3) pa_nil))))
  (pss_one (ps_for PassesOwn.never rfl (pi_range1 rfl T.b_range (pa_cons pe_int pa_nil)) (pg_name (i := 5) sc_law.nd rfl (Or.inl rfl))
  (pss_cons (ps_set (i := 6) sc_law.nd rfl (Or.inl rfl) (pe_cl c_l_box hr passL (pa_cons (pv 1) pa_nil)))
  (pss_cons (ps_asg (pe_cl c_l_near hr passL (pa_cons (pv 1) (pa_cons (pv 6) pa_nil))) (pg_tup rfl (pgs_cons (pg_name (i := 7) sc_law.nd rfl (Or.inl rfl)) (pgs_cons (pg_name (i := 8) sc_law.nd rfl (Or.inl rfl)) pgs_nil))))
  (pss_cons (ps_set (i := 9) sc_law.nd rfl (Or.inl rfl) (pe_tup (pa_cons pe_str (pa_cons (pv 6) (pa_cons (pv 7) (pa_cons (pv 8) pa_nil))))))
  (pss_cons (ps_par (i := 10) (j := 4) rfl sc_law.nd rfl rfl (by decide) rfl rfl (pa_cons (pe_cl c_l_built hr passL (pa_cons (pv 1) (pa_cons (pv 9) pa_nil))) (pa_cons (pe_cl c_l_copied hr passL (pa_cons (pv 4) (pa_cons (pv 9) pa_nil))) pa_nil)) rfl)
  (pss_one (ps_if (pw_or (pt_cmpR op_notN (pe_me (pv 10) D0.cl m_on hr passL (pa_cons (pv 3) pa_nil)) pe_non (nomark _)) (pw_or1 (pt_cmpR (op_neD hr.units) (pe_fld (pe_me0 (pv 3) V0.cl m_pict hr passL) rfl) (pe_cl c_l_lines hr passL (pa_cons (pv 4) pa_nil)) (nomark _)))).pt (pss_one (ps_ret pe_bl)) pss_nil)))))))))))
  (pss_one (ps_ret pe_bl)))), ?_⟩
    try dsimp only [cxOf, Cx.nox, Cx.wish, List.map]
    walk_at "rd"
    refine ⟨a, ns, rfl, hS, hlen, fun b c H1 Pn1 s1 => ?_⟩
    walk_at "rd"
    refine ⟨4, rfl, by decide, by decide, for_range (n := 4) (fun i σ H' => (∃ v2 v3 v4 v5 v6 v7 v8 v9 v10 : Option V, σ = [some (V.ref a), some (V.ref b), v2, v3, v4, v5, v6, v7, v8, v9, v10]) ∧ Pen H' b c (1000000 - i * 1000)) ⟨⟨none, none, none, none, none, none, none, none, none, rfl⟩, Pn1⟩ ?_ ?_⟩
    · clear s1 Pn1 hS
      rintro i σ H2 hi ⟨⟨v2, v3, v4, v5, v6, v7, v8, v9, v10, rfl⟩, P2⟩
      refine rd_gname ?_
      walk_at "rd"
      refine use_pd (k := 1000000 - i * 1000 - 1) (P2.less (by omega)) (by decide) (by decide) fun i1 H3 a1 b1 P3 k3 => ?_
      walk_at "rd"
      refine use_pd (k := 1000000 - i * 1000 - 2) (P3.less (by omega)) (by decide) (by decide) fun i2 H4 a2 b2 P4 k4 => ?_
      obtain ⟨w0, ew0⟩ : ∃ w0 : Nat, 1 + i1 = (w0 : Int) := ⟨(1 + i1).toNat, by omega⟩
      obtain ⟨h0, eh0⟩ : ∃ h0 : Nat, 1 + i2 = (h0 : Int) := ⟨(1 + i2).toNat, by omega⟩
      walk_at "rd"
      rw [ew0, eh0]
      have F : Fit w0 h0 := ⟨by omega, by omega, by omega, by omega⟩
      have cost : h0 * w0 ≤ 5 * 8 := Nat.mul_le_mul (by omega) (by omega)
      clear k3 k4 P2 P3
      refine use_cv F fun p H5 n5 x5 s5 => ?_
      walk_at "rd"
      refine ⟨b, c, p, 1000000 - i * 1000 - 42, w0, h0, _, rfl, x5, F, (P4.same s5).less (by omega), fun g7 R7 H7 x7 gg7 P7 => ?_⟩
      walk_at "rd"
      refine ⟨4, rfl, by decide, by decide, for_range (n := 4) (fun j σ H' => ∃ (g' : Addr) (R' : Pic) (v5 v6 v7 v8 v9 v10 : Option V), σ = [some (V.ref a), some (V.ref b), some (V.int (0 + (i : Int))), some (V.ref p), some (V.ref g'), v5, v6, v7, v8, v9, v10] ∧ CvG CV H' p w0 h0 R' ∧ GrG H' g' R' ∧ Pen H' b c (1000000 - i * 1000 - 42 - j * 21)) ⟨g7, R7, v5, v6, v7, v8, v9, v10, rfl, x7, gg7, P7.less (by omega)⟩ ?_ ?_⟩
      · clear x5 P4 s5 x7 gg7 P7 v5 v6 v7 v8 v9 v10
        rintro j σ B0 hj ⟨g', R', v5, v6, v7, v8, v9, v10, rfl, xA, gA, PA⟩
        have G := xA.g
        refine rd_gname ?_
        walk_at "rd"
        refine ⟨b, c, 1000000 - i * 1000 - 42 - j * 21 - 10, rfl, PA.less (by omega), fun q t0 t1 t2 t3 B1 f1 n0 n1 n2 n3 P1 k1 => ?_⟩
        have x1 := xA.pen PA k1
        have g1 := gA.pen PA k1
        walk_at "rd"
        refine ⟨b, c, q, 1000000 - i * 1000 - 42 - j * 21 - 15, t0, t1, t2, t3, rfl, f1, n0, n1, n2, n3, P1.less (by omega), fun tn qx qy tx ty B2 e2 gx gy fx fy P2 k2 => ?_⟩
        have x2 := x1.pen P1 k2
        have g2 := g1.pen P1 k2
        have f2 := f1.pen P1 k2
        refine rd_gtup (SqT.of e2) rfl ?_
        walk_at "rd"
        refine new_tup (by show 4 ≤ 1000; decide) fun tt B3 n3' e3 s3 => ?_
        have T3 : ToldC B3 tt t0 t1 t2 t3 tx ty := ⟨q, qx, qy, e3, f2.same s3, gx.same s3, gy.same s3⟩
        walk_at "rd"
        refine ⟨b, c, tt, 1000000 - i * 1000 - 42 - j * 21 - 21, t0, t1, t2, t3, tx, ty, rfl, (P2.same s3).less (by omega), T3, .of n0, .of n1, .of n2, .of n3, fx, fy, fun dp B4 d4 P4' k4' => ?_⟩
        have x4 := (x2.same s3).pen (P2.same s3) k4'
        have g4 := (g2.same s3).pen (P2.same s3) k4'
        have T4 := T3.pen (P2.same s3) k4'
        clear xA gA PA k1 x1 g1 f1 x2 g2 f2 P1 P2 k2 T3 k4'
        walk_at "rd"
        refine ⟨g', tt, R', w0, h0, t0, t1, t2, t3, tx, ty, rfl, g4, G, F, T4, .of n0, .of n1, .of n2, .of n3, fx, fy, fun x0 xx1 y0 y1 eb g5 B5 n5' gg5 s5' => ?_⟩
        rw [copy_win G] at gg5
        have x5 := x4.same s5'
        have d5 := d4.same s5'
        have P5 := P4'.same s5'
        clear x4 g4 T4 d4 P4' s5'
        obtain ⟨dx, qb, qx', qy', hp, _⟩ := id d5.at_
        walk_at "rd"
        refine ⟨dp, dx, _, rfl, hp, cp_no (by decide +kernel) (by decide +kernel) (by decide +kernel) (by decide +kernel), ?_⟩
        walk_at "rd"
        refine ⟨dp, p, t0, t1, t2, t3, tx, ty, R', w0, h0, rfl, d5, x5, F, n0.sp.smP, n1.sp.smP, n2.sp.smP, n3.sp.smP, fx.sp.smP, fy.sp.smP, fun m0 m1 m2 m3 em A14 x14 k14 => ?_⟩
        obtain ⟨rfl, rfl, rfl, rfl⟩ : m0 = x0 ∧ m1 = xx1 ∧ m2 = y0 ∧ m3 = y1 := by
          rw [em] at eb
          simpa using eb
        have gg14 := gg5.cv x5 k14
        have P14 := x5.penC P5 k14
        clear gg5 d5 P5 x5 hp
        walk_at "rd"
        refine ⟨rfl, false, rfl, iteF ?_⟩
        walk_at "rd"
        refine cv_m x14 (by decide +kernel) (by decide +kernel) (by decide +kernel) ?_
        walk_at "rd"
        refine ⟨p, _, w0, h0, rfl, x14, F, fun q B2 nq pq sq => ?_⟩
        walk_at "rd"
        refine use_rows C0 pq fun t et => ?_
        walk_at "rd"
        refine ⟨g5, _, w0, h0, rfl, gg14.same sq, x14.g, F, fun t2 B3 e2 s3 => ?_⟩
        refine use_neRT (s3 _ _ et) e2 x14.g.d x14.g.d ?_
        rw [decide_eq_true rfl]
        walk_at "rd"
        refine iteF ?_
        walk_at "rd"
        have S3 := sq.trans s3
        exact ⟨g5, _, _, _, _, _, _, _, rfl, x14.same S3, gg14.same S3, (P14.same S3).less (by omega)⟩
      · rintro σ B0 ⟨g', R', v5, v6, v7, v8, v9, v10, rfl, xA, gA, PA⟩
        exact ⟨⟨_, _, _, _, _, _, _, _, _, rfl⟩, PA.less (by omega)⟩
    · rintro σ H2 ⟨⟨v2, v3, v4, v5, v6, v7, v8, v9, v10, rfl⟩, P2⟩
      walk_at "rd"
      exact k _
end
open PySem PySem.Spec PyProof.Rows L2 Hf
theorem all_mk {l : PySem.W.OpenLaw} {w : World} {K : PySem.W.Frag} {h : Heap} {mg : Str → Option Value} {fa : Addr} (X : K.In h) (G : h.Ns mainGlobals mg) (hfa : mg "law" = some (.ref fa))
    {C : Addr} {cdC : ClassData} {rAf : Addr} {foA roA foS roS : Option Value} {HE : Addr} {CB ccBadPlace cdaBadPlace : Addr} {nmBadPlace qnBadPlace : Str} {NBBadPlace : Addr} {bsBadPlace bmBadPlace : List Value} {snBadPlace : List Str} {subBadPlace : List Value} {abBadPlace : Bool} {colBadPlace : Option Bool} {ddBadPlace : Option Addr} {q0BadPlace q1BadPlace q2BadPlace q3BadPlace q5BadPlace : Option Value} {cdBadPlace : ClassData} {fBadPlace : Addr} {odBadPlace anBadPlace : Option Addr} {slBadPlace : Array (Option Value)} {ocBadPlace kVBadPlace dcBadPlace pmBadPlace ctBadPlace : Value} {cclBadPlace : Value} {cddBadPlace : Option Addr} {cvsBadPlace : Array Value} {ccsBadPlace : Array (Option Value)} {fileBadPlace : Str} {tfBadPlace : Tok} {clvBadPlace : Value} {cldBadPlace : Option Addr} {cslBadPlace : Array (Option Value)} {CS ccBadSize cdaBadSize : Addr} {nmBadSize qnBadSize : Str} {NBBadSize : Addr} {bsBadSize bmBadSize : List Value} {snBadSize : List Str} {subBadSize : List Value} {abBadSize : Bool} {colBadSize : Option Bool} {ddBadSize : Option Addr} {q0BadSize q1BadSize q2BadSize q3BadSize q5BadSize : Option Value} {cdBadSize : ClassData} {fBadSize : Addr} {odBadSize anBadSize : Option Addr} {slBadSize : Array (Option Value)} {ocBadSize kVBadSize dcBadSize pmBadSize ctBadSize : Value} {cclBadSize : Value} {cddBadSize : Option Addr} {cvsBadSize : Array Value} {ccsBadSize : Array (Option Value)} {fileBadSize : Str} {tfBadSize : Tok} {clvBadSize : Value} {cldBadSize : Option Addr} {cslBadSize : Array (Option Value)} {CK ccBadColour cdaBadColour : Addr} {nmBadColour qnBadColour : Str} {NBBadColour : Addr} {bsBadColour bmBadColour : List Value} {snBadColour : List Str} {subBadColour : List Value} {abBadColour : Bool} {colBadColour : Option Bool} {ddBadColour : Option Addr} {q0BadColour q1BadColour q2BadColour q3BadColour q5BadColour : Option Value} {cdBadColour : ClassData} {fBadColour : Addr} {odBadColour anBadColour : Option Addr} {slBadColour : Array (Option Value)} {ocBadColour kVBadColour dcBadColour pmBadColour ctBadColour : Value} {cclBadColour : Value} {cddBadColour : Option Addr} {cvsBadColour : Array Value} {ccsBadColour : Array (Option Value)} {fileBadColour : Str} {tfBadColour : Tok} {clvBadColour : Value} {cldBadColour : Option Addr} {cslBadColour : Array (Option Value)} {CE ccBadPixel cdaBadPixel : Addr} {nmBadPixel qnBadPixel : Str} {NBBadPixel : Addr} {bsBadPixel bmBadPixel : List Value} {snBadPixel : List Str} {subBadPixel : List Value} {abBadPixel : Bool} {colBadPixel : Option Bool} {ddBadPixel : Option Addr} {q0BadPixel q1BadPixel q2BadPixel q3BadPixel q5BadPixel : Option Value} {cdBadPixel : ClassData} {fBadPixel : Addr} {odBadPixel anBadPixel : Option Addr} {slBadPixel : Array (Option Value)} {ocBadPixel kVBadPixel dcBadPixel pmBadPixel ctBadPixel : Value} {cclBadPixel : Value} {cddBadPixel : Option Addr} {cvsBadPixel : Array Value} {ccsBadPixel : Array (Option Value)} {fileBadPixel : Str} {tfBadPixel : Tok} {clvBadPixel : Value} {cldBadPixel : Option Addr} {cslBadPixel : Array (Option Value)} {CX : Addr} {tMP : Tok} {f1 : Addr} {od1 an1 : Option Addr} {sl1 : Array (Option Value)} {oc1 kV1 dc1 pm1 cd1 ct1 : Value} {T1 : Addr} {dt1 : Tok} {dcq1 : Value} {dd1 : Option Addr} {dn1 : Nat} {ds1 : Array (Option Value)} {f2 : Addr} {od2 an2 : Option Addr} {sl2 : Array (Option Value)} {oc2 kV2 dc2 pm2 cd2 ct2 : Value} {f3 : Addr} {od3 an3 : Option Addr} {sl3 : Array (Option Value)} {oc3 kV3 dc3 pm3 cd3 ct3 : Value} {f4 : Addr} {od4 an4 : Option Addr} {sl4 : Array (Option Value)} {oc4 kV4 dc4 pm4 cd4 ct4 : Value} {CP : Addr} {tms tdg : Tok} {f5 : Addr} {od5 an5 : Option Addr} {sl5 : Array (Option Value)} {oc5 kV5 dc5 pm5 cd5 ct5 : Value} {f6 : Addr} {od6 an6 : Option Addr} {sl6 : Array (Option Value)} {oc6 kV6 dc6 pm6 cd6 ct6 : Value} {f7 : Addr} {od7 an7 : Option Addr} {sl7 : Array (Option Value)} {oc7 kV7 dc7 pm7 cd7 ct7 : Value} {f8 : Addr} {od8 an8 : Option Addr} {sl8 : Array (Option Value)} {oc8 kV8 dc8 pm8 cd8 ct8 : Value} {f9 : Addr} {od9 an9 : Option Addr} {sl9 : Array (Option Value)} {oc9 kV9 dc9 pm9 cd9 ct9 : Value} {f10 : Addr} {od10 an10 : Option Addr} {sl10 : Array (Option Value)} {oc10 kV10 dc10 pm10 cd10 ct10 : Value} {f11 : Addr} {od11 an11 : Option Addr} {sl11 : Array (Option Value)} {oc11 kV11 dc11 pm11 cd11 ct11 : Value} {f12 : Addr} {od12 an12 : Option Addr} {sl12 : Array (Option Value)} {oc12 kV12 dc12 pm12 cd12 ct12 : Value} {f13 : Addr} {od13 an13 : Option Addr} {sl13 : Array (Option Value)} {oc13 kV13 dc13 pm13 cd13 ct13 : Value} {f14 : Addr} {od14 an14 : Option Addr} {sl14 : Array (Option Value)} {oc14 kV14 dc14 pm14 cd14 ct14 : Value} {f15 : Addr} {od15 an15 : Option Addr} {sl15 : Array (Option Value)} {oc15 kV15 dc15 pm15 cd15 ct15 : Value} {f16 : Addr} {od16 an16 : Option Addr} {sl16 : Array (Option Value)} {oc16 kV16 dc16 pm16 cd16 ct16 : Value} {f17 : Addr} {od17 an17 : Option Addr} {sl17 : Array (Option Value)} {oc17 kV17 dc17 pm17 cd17 ct17 : Value} {f18 : Addr} {od18 an18 : Option Addr} {sl18 : Array (Option Value)} {oc18 kV18 dc18 pm18 cd18 ct18 : Value} {f19 : Addr} {od19 an19 : Option Addr} {sl19 : Array (Option Value)} {oc19 kV19 dc19 pm19 cd19 ct19 : Value} {f20 : Addr} {od20 an20 : Option Addr} {sl20 : Array (Option Value)} {oc20 kV20 dc20 pm20 cd20 ct20 : Value} {f21 : Addr} {od21 an21 : Option Addr} {sl21 : Array (Option Value)} {oc21 kV21 dc21 pm21 cd21 ct21 : Value} {f22 : Addr} {od22 an22 : Option Addr} {sl22 : Array (Option Value)} {oc22 kV22 dc22 pm22 cd22 ct22 : Value} {f23 : Addr} {od23 an23 : Option Addr} {sl23 : Array (Option Value)} {oc23 kV23 dc23 pm23 cd23 ct23 : Value} {f24 : Addr} {od24 an24 : Option Addr} {sl24 : Array (Option Value)} {oc24 kV24 dc24 pm24 cd24 ct24 : Value} {f25 : Addr} {od25 an25 : Option Addr} {sl25 : Array (Option Value)} {oc25 kV25 dc25 pm25 cd25 ct25 : Value} {f26 : Addr} {od26 an26 : Option Addr} {sl26 : Array (Option Value)} {oc26 kV26 dc26 pm26 cd26 ct26 : Value} {f27 : Addr} {od27 an27 : Option Addr} {sl27 : Array (Option Value)} {oc27 kV27 dc27 pm27 cd27 ct27 : Value} {f28 : Addr} {od28 an28 : Option Addr} {sl28 : Array (Option Value)} {oc28 kV28 dc28 pm28 cd28 ct28 : Value} {f29 : Addr} {od29 an29 : Option Addr} {sl29 : Array (Option Value)} {oc29 kV29 dc29 pm29 cd29 ct29 : Value} {f30 : Addr} {od30 an30 : Option Addr} {sl30 : Array (Option Value)} {oc30 kV30 dc30 pm30 cd30 ct30 : Value} {f31 : Addr} {od31 an31 : Option Addr} {sl31 : Array (Option Value)} {oc31 kV31 dc31 pm31 cd31 ct31 : Value} {f32 : Addr} {od32 an32 : Option Addr} {sl32 : Array (Option Value)} {oc32 kV32 dc32 pm32 cd32 ct32 : Value} {f33 : Addr} {od33 an33 : Option Addr} {sl33 : Array (Option Value)} {oc33 kV33 dc33 pm33 cd33 ct33 : Value} {f34 : Addr} {od34 an34 : Option Addr} {sl34 : Array (Option Value)} {oc34 kV34 dc34 pm34 cd34 ct34 : Value} {f35 : Addr} {od35 an35 : Option Addr} {sl35 : Array (Option Value)} {oc35 kV35 dc35 pm35 cd35 ct35 : Value} {f36 : Addr} {od36 an36 : Option Addr} {sl36 : Array (Option Value)} {oc36 kV36 dc36 pm36 cd36 ct36 : Value} {CV : Addr} {f37 : Addr} {od37 an37 : Option Addr} {sl37 : Array (Option Value)} {oc37 kV37 dc37 pm37 cd37 ct37 : Value} {f38 : Addr} {od38 an38 : Option Addr} {sl38 : Array (Option Value)} {oc38 kV38 dc38 pm38 cd38 ct38 : Value} {f39 : Addr} {od39 an39 : Option Addr} {sl39 : Array (Option Value)} {oc39 kV39 dc39 pm39 cd39 ct39 : Value} {f40 : Addr} {od40 an40 : Option Addr} {sl40 : Array (Option Value)} {oc40 kV40 dc40 pm40 cd40 ct40 : Value} {DD : Addr} {DP : Addr} {DB : Addr} {CO : Addr} {f41 : Addr} {od41 an41 : Option Addr} {sl41 : Array (Option Value)} {oc41 kV41 dc41 pm41 cd41 ct41 : Value} {fpt ccpt cdapt : Addr} {odpt anpt : Option Addr} {slpt : Array (Option Value)} {ocpt kVpt dcpt pmpt ctpt : Value} {cclpt : Value} {cddpt : Option Addr} {cvspt : Array Value} {ccspt : Array (Option Value)} {filept : Str} {tfpt : Tok} {clvpt : Value} {cldpt : Option Addr} {cslpt : Array (Option Value)} {cdpt : ClassData} {fbx ccbx cdabx : Addr} {odbx anbx : Option Addr} {slbx : Array (Option Value)} {ocbx kVbx dcbx pmbx ctbx : Value} {cclbx : Value} {cddbx : Option Addr} {cvsbx : Array Value} {ccsbx : Array (Option Value)} {filebx : Str} {tfbx : Tok} {clvbx : Value} {cldbx : Option Addr} {cslbx : Array (Option Value)} {cdbx : ClassData} {fcp cccp cdacp : Addr} {odcp ancp : Option Addr} {slcp : Array (Option Value)} {occp kVcp dccp pmcp ctcp : Value} {cclcp : Value} {cddcp : Option Addr} {cvscp : Array Value} {ccscp : Array (Option Value)} {filecp : Str} {tfcp : Tok} {clvcp : Value} {cldcp : Option Addr} {cslcp : Array (Option Value)} {cdcp : ClassData} {f42 : Addr} {od42 an42 : Option Addr} {sl42 : Array (Option Value)} {oc42 kV42 dc42 pm42 cd42 ct42 : Value} {f43 : Addr} {od43 an43 : Option Addr} {sl43 : Array (Option Value)} {oc43 kV43 dc43 pm43 cd43 ct43 : Value} {f0 : Addr} {od0 an0 : Option Addr} {sl0 : Array (Option Value)} {oc0 kV0 dc0 pm0 cd0 ct0 : Value}
    (z_ValueError : PySem.W.nsIn K mainGlobals "ValueError" = some none)
    (z_abs : PySem.W.nsIn K mainGlobals "abs" = some none)
    (z_all : PySem.W.nsIn K mainGlobals "all" = some none)
    (z_bool : PySem.W.nsIn K mainGlobals "bool" = some none)
    (z_enumerate : PySem.W.nsIn K mainGlobals "enumerate" = some none)
    (z_int : PySem.W.nsIn K mainGlobals "int" = some none)
    (z_isinstance : PySem.W.nsIn K mainGlobals "isinstance" = some none)
    (z_len : PySem.W.nsIn K mainGlobals "len" = some none)
    (z_list : PySem.W.nsIn K mainGlobals "list" = some none)
    (z_max : PySem.W.nsIn K mainGlobals "max" = some none)
    (z_min : PySem.W.nsIn K mainGlobals "min" = some none)
    (z_range : PySem.W.nsIn K mainGlobals "range" = some none)
    (z_repr : PySem.W.nsIn K mainGlobals "repr" = some none)
    (z_str : PySem.W.nsIn K mainGlobals "str" = some none)
    (z_super : PySem.W.nsIn K mainGlobals "super" = some none)
    (z_tuple : PySem.W.nsIn K mainGlobals "tuple" = some none)
    (z_zip : PySem.W.nsIn K mainGlobals "zip" = some none)
    (gC : PySem.W.nsIn K mainGlobals "Place" = some (some (.ref C)))
    (pg : PySem.W.plainGet K C Str.empty = true)
    (hd : PySem.W.hasDictIn K C = true)
    (po : PySem.W.plainOver K C = true)
    (sa : PySem.W.findIn K (.ref C) "__setattr__" = some (some (.builtin "object.__setattr__")))
    (n1 : PySem.W.findIn K (.ref C) "slope" = some none)
    (n2 : PySem.W.findIn K (.ref C) "offset" = some none)
    (n3 : PySem.W.findIn K (.ref C) "odd" = some none)
    (sf : PySem.W.selfFirst K C = true)
    (cC : PySem.W.clsIn K C = some cdC)
    (iC : PySem.W.isClsIn K C = true)
    (tC : PySem.W.typeIn K (.ref C) = some (.type "type"))
    (ne1 : PySem.W.findIn K (.ref C) "__ne__" = some (some (.builtin "object.__ne__")))
    (ne2 : PySem.W.subIn K (.ref C) (.type "object") = some true)
    (ha : PySem.W.findIn K (.ref C) "__class__" = some (some (.builtin "object.__class__")))
    (hn : PySem.W.specialIn K (.builtin "object.__class__") "__get__" = some (some (.builtin "getset_descriptor.__get__")))
    (tk : PySem.W.takesIn K (.builtin "object.__class__") = some true)
    (mo : PySem.W.mroIn K C (.type "object") = some true)
    (sI : PySem.W.subIn K (.ref C) (.type "int") = some false)
    (rA : PySem.W.findIn K (.ref C) (dunderR "add") = some (some (.ref rAf)))
    (rS : PySem.W.findIn K (.ref C) (dunderR "sub") = some none)
    (oA : PySem.W.findIn K (.type "int") (PySem.dunder "add") = some foA)
    (pA : PySem.W.findIn K (.type "int") (dunderR "add") = some roA)
    (oS : PySem.W.findIn K (.type "int") (PySem.dunder "sub") = some foS)
    (pS : PySem.W.findIn K (.type "int") (dunderR "sub") = some roS)
    (sIC : PySem.W.subIn K (.type "int") (.ref C) = some false)
    (hi : PySem.W.findIn K (.ref C) "__iadd__" = some none)
    (mk : PySem.W.makesIn K C = true)
    (kc : PySem.W.keepIn K (.ref C) = true)
    (pm : cdC.mro = [.ref C, .type "object"])
    (gH : PySem.W.nsIn K mainGlobals "HoldError" = some (some (.ref HE)))
    (top : (l.prog.main.scope.names.lookup ("super" : Str)).isSome = false)
    (opq : PySem.W.nsIn K cStatics "thirdparty.any" = some none)
    (h1 : PySem.W.subIn K (.ref HE) (.type "BaseException") = some true)
    (h2 : PySem.W.hasDictIn K HE = true)
    (h3 : PySem.W.typeIn K (.ref HE) = some (.type "type"))
    (gBadPlace : PySem.W.nsIn K mainGlobals "BadPlace" = some (some (.ref CB)))
    (lBadPlace : K.lookup CB = some (excClassObj nmBadPlace qnBadPlace CB NBBadPlace bsBadPlace bmBadPlace true snBadPlace subBadPlace abBadPlace colBadPlace ddBadPlace q0BadPlace q1BadPlace q2BadPlace q3BadPlace q5BadPlace "ValueError.__new__"))
    (rBadPlace : PySem.HandSPX.refsVE bmBadPlace = true)
    (saBadPlace : PySem.W.findIn K (.ref CB) "__setattr__" = some (some (.builtin "object.__setattr__")))
    (exBadPlace : PySem.W.subIn K (.ref CB) (.type "BaseException") = some true)
    (tyBadPlace : PySem.W.typeIn K (.ref CB) = some (.type "type"))
    (kBadPlace : PySem.W.keepIn K (.ref CB) = true)
    (iBadPlace : PySem.W.findIn K (.ref CB) "__init__" = some (some (.ref fBadPlace)))
    (tIBadPlace : PySem.W.typeIn K (.ref fBadPlace) = some (.type "function"))
    (lIBadPlace : K.lookup fBadPlace = some ⟨ocBadPlace, odBadPlace, .func (PySem.W.ksFn "__init__" "BadPlace.__init__" (defArgs s_BadPlace_init) (defBody s_BadPlace_init) (defScope s_BadPlace_init) .none kVBadPlace dcBadPlace pmBadPlace anBadPlace (.ref cdaBadPlace) ctBadPlace ccBadPlace), slBadPlace⟩)
    (cIBadPlace : PySem.W.codeIn K (.ref cdaBadPlace) "BadPlace.__init__" = true)
    (lkBadPlace : K.lookup cdaBadPlace = some ⟨cclBadPlace, cddBadPlace, .fields cvsBadPlace, ccsBadPlace⟩)
    (vkBadPlace : cvsBadPlace[2]? = some (Value.str fileBadPlace tfBadPlace))
    (fkBadPlace : ((l.prog.main.file : Str) == fileBadPlace) = true)
    (lccBadPlace : K.lookup ccBadPlace = some ⟨clvBadPlace, cldBadPlace, .cell (some (.ref CB)), cslBadPlace⟩)
    (clBadPlace : PySem.W.clsIn K CB = some cdBadPlace)
    (mrBadPlace : PySem.W.mroIn K CB (.ref CB) = some true)
    (iniBadPlace : PySem.W.ks_superIn K CB CB "__init__" = some (some (.builtin "ValueError.__init__")))
    (isVBadPlace : PySem.W.subIn K (.ref CB) (.type "ValueError") = some true)
    (no0BadPlace : PySem.W.findIn K (.ref CB) "part" = some none)
    (gaBadPlace : PySem.W.findIn K (.ref CB) "__getattribute__" = some (some (.builtin "BaseException.__getattribute__")))
    (ggBadPlace : PySem.W.findIn K (.ref CB) "__getattr__" = some none)
    (hdBadPlace : PySem.W.hasDictIn K CB = true)
    (haBadPlace : PySem.W.findIn K (.ref CB) "__class__" = some (some (.builtin "object.__class__")))
    (moBadPlace : PySem.W.mroIn K CB (.type "object") = some true)
    (heBadPlace : PySem.W.subIn K (.ref CB) (.ref HE) = some true)
    (gBadSize : PySem.W.nsIn K mainGlobals "BadSize" = some (some (.ref CS)))
    (lBadSize : K.lookup CS = some (excClassObj nmBadSize qnBadSize CS NBBadSize bsBadSize bmBadSize true snBadSize subBadSize abBadSize colBadSize ddBadSize q0BadSize q1BadSize q2BadSize q3BadSize q5BadSize "ValueError.__new__"))
    (rBadSize : PySem.HandSPX.refsVE bmBadSize = true)
    (saBadSize : PySem.W.findIn K (.ref CS) "__setattr__" = some (some (.builtin "object.__setattr__")))
    (exBadSize : PySem.W.subIn K (.ref CS) (.type "BaseException") = some true)
    (tyBadSize : PySem.W.typeIn K (.ref CS) = some (.type "type"))
    (kBadSize : PySem.W.keepIn K (.ref CS) = true)
    (iBadSize : PySem.W.findIn K (.ref CS) "__init__" = some (some (.ref fBadSize)))
    (tIBadSize : PySem.W.typeIn K (.ref fBadSize) = some (.type "function"))
    (lIBadSize : K.lookup fBadSize = some ⟨ocBadSize, odBadSize, .func (PySem.W.ksFn "__init__" "BadSize.__init__" (defArgs s_BadSize_init) (defBody s_BadSize_init) (defScope s_BadSize_init) .none kVBadSize dcBadSize pmBadSize anBadSize (.ref cdaBadSize) ctBadSize ccBadSize), slBadSize⟩)
    (cIBadSize : PySem.W.codeIn K (.ref cdaBadSize) "BadSize.__init__" = true)
    (lkBadSize : K.lookup cdaBadSize = some ⟨cclBadSize, cddBadSize, .fields cvsBadSize, ccsBadSize⟩)
    (vkBadSize : cvsBadSize[2]? = some (Value.str fileBadSize tfBadSize))
    (fkBadSize : ((l.prog.main.file : Str) == fileBadSize) = true)
    (lccBadSize : K.lookup ccBadSize = some ⟨clvBadSize, cldBadSize, .cell (some (.ref CS)), cslBadSize⟩)
    (clBadSize : PySem.W.clsIn K CS = some cdBadSize)
    (mrBadSize : PySem.W.mroIn K CS (.ref CS) = some true)
    (iniBadSize : PySem.W.ks_superIn K CS CS "__init__" = some (some (.builtin "ValueError.__init__")))
    (isVBadSize : PySem.W.subIn K (.ref CS) (.type "ValueError") = some true)
    (no0BadSize : PySem.W.findIn K (.ref CS) "part" = some none)
    (gaBadSize : PySem.W.findIn K (.ref CS) "__getattribute__" = some (some (.builtin "BaseException.__getattribute__")))
    (ggBadSize : PySem.W.findIn K (.ref CS) "__getattr__" = some none)
    (hdBadSize : PySem.W.hasDictIn K CS = true)
    (haBadSize : PySem.W.findIn K (.ref CS) "__class__" = some (some (.builtin "object.__class__")))
    (moBadSize : PySem.W.mroIn K CS (.type "object") = some true)
    (heBadSize : PySem.W.subIn K (.ref CS) (.ref HE) = some true)
    (gBadColour : PySem.W.nsIn K mainGlobals "BadColour" = some (some (.ref CK)))
    (lBadColour : K.lookup CK = some (excClassObj nmBadColour qnBadColour CK NBBadColour bsBadColour bmBadColour true snBadColour subBadColour abBadColour colBadColour ddBadColour q0BadColour q1BadColour q2BadColour q3BadColour q5BadColour "ValueError.__new__"))
    (rBadColour : PySem.HandSPX.refsVE bmBadColour = true)
    (saBadColour : PySem.W.findIn K (.ref CK) "__setattr__" = some (some (.builtin "object.__setattr__")))
    (exBadColour : PySem.W.subIn K (.ref CK) (.type "BaseException") = some true)
    (tyBadColour : PySem.W.typeIn K (.ref CK) = some (.type "type"))
    (kBadColour : PySem.W.keepIn K (.ref CK) = true)
    (iBadColour : PySem.W.findIn K (.ref CK) "__init__" = some (some (.ref fBadColour)))
    (tIBadColour : PySem.W.typeIn K (.ref fBadColour) = some (.type "function"))
    (lIBadColour : K.lookup fBadColour = some ⟨ocBadColour, odBadColour, .func (PySem.W.ksFn "__init__" "BadColour.__init__" (defArgs s_BadColour_init) (defBody s_BadColour_init) (defScope s_BadColour_init) .none kVBadColour dcBadColour pmBadColour anBadColour (.ref cdaBadColour) ctBadColour ccBadColour), slBadColour⟩)
    (cIBadColour : PySem.W.codeIn K (.ref cdaBadColour) "BadColour.__init__" = true)
    (lkBadColour : K.lookup cdaBadColour = some ⟨cclBadColour, cddBadColour, .fields cvsBadColour, ccsBadColour⟩)
    (vkBadColour : cvsBadColour[2]? = some (Value.str fileBadColour tfBadColour))
    (fkBadColour : ((l.prog.main.file : Str) == fileBadColour) = true)
    (lccBadColour : K.lookup ccBadColour = some ⟨clvBadColour, cldBadColour, .cell (some (.ref CK)), cslBadColour⟩)
    (clBadColour : PySem.W.clsIn K CK = some cdBadColour)
    (mrBadColour : PySem.W.mroIn K CK (.ref CK) = some true)
    (iniBadColour : PySem.W.ks_superIn K CK CK "__init__" = some (some (.builtin "ValueError.__init__")))
    (isVBadColour : PySem.W.subIn K (.ref CK) (.type "ValueError") = some true)
    (no0BadColour : PySem.W.findIn K (.ref CK) "value" = some none)
    (gaBadColour : PySem.W.findIn K (.ref CK) "__getattribute__" = some (some (.builtin "BaseException.__getattribute__")))
    (ggBadColour : PySem.W.findIn K (.ref CK) "__getattr__" = some none)
    (hdBadColour : PySem.W.hasDictIn K CK = true)
    (haBadColour : PySem.W.findIn K (.ref CK) "__class__" = some (some (.builtin "object.__class__")))
    (moBadColour : PySem.W.mroIn K CK (.type "object") = some true)
    (heBadColour : PySem.W.subIn K (.ref CK) (.ref HE) = some true)
    (gBadPixel : PySem.W.nsIn K mainGlobals "BadPixel" = some (some (.ref CE)))
    (lBadPixel : K.lookup CE = some (excClassObj nmBadPixel qnBadPixel CE NBBadPixel bsBadPixel bmBadPixel true snBadPixel subBadPixel abBadPixel colBadPixel ddBadPixel q0BadPixel q1BadPixel q2BadPixel q3BadPixel q5BadPixel "ValueError.__new__"))
    (rBadPixel : PySem.HandSPX.refsVE bmBadPixel = true)
    (saBadPixel : PySem.W.findIn K (.ref CE) "__setattr__" = some (some (.builtin "object.__setattr__")))
    (exBadPixel : PySem.W.subIn K (.ref CE) (.type "BaseException") = some true)
    (tyBadPixel : PySem.W.typeIn K (.ref CE) = some (.type "type"))
    (kBadPixel : PySem.W.keepIn K (.ref CE) = true)
    (iBadPixel : PySem.W.findIn K (.ref CE) "__init__" = some (some (.ref fBadPixel)))
    (tIBadPixel : PySem.W.typeIn K (.ref fBadPixel) = some (.type "function"))
    (lIBadPixel : K.lookup fBadPixel = some ⟨ocBadPixel, odBadPixel, .func (PySem.W.ksFn "__init__" "BadPixel.__init__" (defArgs s_BadPixel_init) (defBody s_BadPixel_init) (defScope s_BadPixel_init) .none kVBadPixel dcBadPixel pmBadPixel anBadPixel (.ref cdaBadPixel) ctBadPixel ccBadPixel), slBadPixel⟩)
    (cIBadPixel : PySem.W.codeIn K (.ref cdaBadPixel) "BadPixel.__init__" = true)
    (lkBadPixel : K.lookup cdaBadPixel = some ⟨cclBadPixel, cddBadPixel, .fields cvsBadPixel, ccsBadPixel⟩)
    (vkBadPixel : cvsBadPixel[2]? = some (Value.str fileBadPixel tfBadPixel))
    (fkBadPixel : ((l.prog.main.file : Str) == fileBadPixel) = true)
    (lccBadPixel : K.lookup ccBadPixel = some ⟨clvBadPixel, cldBadPixel, .cell (some (.ref CE)), cslBadPixel⟩)
    (clBadPixel : PySem.W.clsIn K CE = some cdBadPixel)
    (mrBadPixel : PySem.W.mroIn K CE (.ref CE) = some true)
    (iniBadPixel : PySem.W.ks_superIn K CE CE "__init__" = some (some (.builtin "ValueError.__init__")))
    (isVBadPixel : PySem.W.subIn K (.ref CE) (.type "ValueError") = some true)
    (no0BadPixel : PySem.W.findIn K (.ref CE) "x" = some none)
    (no1BadPixel : PySem.W.findIn K (.ref CE) "y" = some none)
    (gaBadPixel : PySem.W.findIn K (.ref CE) "__getattribute__" = some (some (.builtin "BaseException.__getattribute__")))
    (ggBadPixel : PySem.W.findIn K (.ref CE) "__getattr__" = some none)
    (hdBadPixel : PySem.W.hasDictIn K CE = true)
    (haBadPixel : PySem.W.findIn K (.ref CE) "__class__" = some (some (.builtin "object.__class__")))
    (moBadPixel : PySem.W.mroIn K CE (.type "object") = some true)
    (heBadPixel : PySem.W.subIn K (.ref CE) (.ref HE) = some true)
    (gCX : PySem.W.nsIn K mainGlobals "Box" = some (some (.ref CX)))
    (xpg : PySem.W.plainGet K CX Str.empty = true)
    (xhd : PySem.W.hasDictIn K CX = true)
    (xpo : PySem.W.plainOver K CX = true)
    (xsa : PySem.W.findIn K (.ref CX) "__setattr__" = some (some (.builtin "object.__setattr__")))
    (xn1 : PySem.W.findIn K (.ref CX) "x0" = some none)
    (xn2 : PySem.W.findIn K (.ref CX) "x1" = some none)
    (xn3 : PySem.W.findIn K (.ref CX) "y0" = some none)
    (xn4 : PySem.W.findIn K (.ref CX) "y1" = some none)
    (xha : PySem.W.findIn K (.ref CX) "__class__" = some (some (.builtin "object.__class__")))
    (xmo : PySem.W.mroIn K CX (.type "object") = some true)
    (xmk : PySem.W.makesIn K CX = true)
    (xkc : PySem.W.keepIn K (.ref CX) = true)
    (nC : C ≠ CX)
    (sBo : PySem.W.subIn K (.ref C) (.type "bool") = some false)
    (gMP : PySem.W.nsIn K mainGlobals "MOST_PART" = some (some (.int 1000000000000 tMP)))
    (a1 : PySem.W.findIn K (.ref C) "__init__" = some (some (.ref f1)))
    (i1 : PySem.W.isFn K (.ref f1) = true)
    (l1 : K.lookup f1 = some ⟨oc1, od1, .func (PySem.W.fnOf "__init__" "Place.__init__" (defArgs s_Place_init) (defBody s_Place_init) (defScope s_Place_init) (.ref T1) kV1 dc1 pm1 an1 cd1 ct1), sl1⟩)
    (t1 : K.lookup T1 = some ⟨dcq1, dd1, .seq #[.int 0 dt1] dn1, ds1⟩)
    (c1 : PySem.W.codeIn K cd1 "Place.__init__" = true)
    (k1 : PySem.W.keepIn K (.ref f1) = true)
    (a2 : PySem.W.findIn K (.ref C) "__call__" = some (some (.ref f2)))
    (i2 : PySem.W.isFn K (.ref f2) = true)
    (l2 : K.lookup f2 = some ⟨oc2, od2, .func (PySem.W.fnOf "__call__" "Place.__call__" (defArgs s_Place_call) (defBody s_Place_call) (defScope s_Place_call) .none kV2 dc2 pm2 an2 cd2 ct2), sl2⟩)
    (c2 : PySem.W.codeIn K cd2 "Place.__call__" = true)
    (k2 : PySem.W.keepIn K (.ref f2) = true)
    (a3 : PySem.W.findIn K (.ref CX) "__init__" = some (some (.ref f3)))
    (i3 : PySem.W.isFn K (.ref f3) = true)
    (l3 : K.lookup f3 = some ⟨oc3, od3, .func (PySem.W.fnOf "__init__" "Box.__init__" (defArgs s_Box_init) (defBody s_Box_init) (defScope s_Box_init) .none kV3 dc3 pm3 an3 cd3 ct3), sl3⟩)
    (c3 : PySem.W.codeIn K cd3 "Box.__init__" = true)
    (k3 : PySem.W.keepIn K (.ref f3) = true)
    (a4 : PySem.W.findIn K (.ref CX) "__call__" = some (some (.ref f4)))
    (i4 : PySem.W.isFn K (.ref f4) = true)
    (l4 : K.lookup f4 = some ⟨oc4, od4, .func (PySem.W.fnOf "__call__" "Box.__call__" (defArgs s_Box_call) (defBody s_Box_call) (defScope s_Box_call) .none kV4 dc4 pm4 an4 cd4 ct4), sl4⟩)
    (c4 : PySem.W.codeIn K cd4 "Box.__call__" = true)
    (k4 : PySem.W.keepIn K (.ref f4) = true)
    (fiP : PySem.W.fnIn K f2 = true)
    (fiB : PySem.W.fnIn K f4 = true)
    (gCP : PySem.W.nsIn K mainGlobals "Picture" = some (some (.ref CP)))
    (gMS : PySem.W.nsIn K mainGlobals "MOST_SIZE" = some (some (.int 200 tms)))
    (gDG : PySem.W.nsIn K mainGlobals "DIGITS_pictures" = some (some (.str "0123456789" tdg)))
    (ypg : PySem.W.plainGet K CP Str.empty = true)
    (yhd : PySem.W.hasDictIn K CP = true)
    (ypo : PySem.W.plainOver K CP = true)
    (ysa : PySem.W.findIn K (.ref CP) "__setattr__" = some (some (.builtin "object.__setattr__")))
    (yn1 : PySem.W.findIn K (.ref CP) "rows" = some none)
    (yn2 : PySem.W.findIn K (.ref CP) "width" = some none)
    (yn3 : PySem.W.findIn K (.ref CP) "height" = some none)
    (yha : PySem.W.findIn K (.ref CP) "__class__" = some (some (.builtin "object.__class__")))
    (ymo : PySem.W.mroIn K CP (.type "object") = some true)
    (ymk : PySem.W.makesIn K CP = true)
    (ykc : PySem.W.keepIn K (.ref CP) = true)
    (a5 : PySem.W.nsIn K mainGlobals "is_whole" = some (some (.ref f5)))
    (l5 : K.lookup f5 = some ⟨oc5, od5, .func (PySem.W.fnOf "is_whole" "is_whole" (defArgs s_is_whole) (defBody s_is_whole) (defScope s_is_whole) .none kV5 dc5 pm5 an5 cd5 ct5), sl5⟩)
    (c5 : PySem.W.codeIn K cd5 "is_whole" = true)
    (k5 : PySem.W.keepIn K (.ref f5) = true)
    (a6 : PySem.W.nsIn K mainGlobals "value_at" = some (some (.ref f6)))
    (l6 : K.lookup f6 = some ⟨oc6, od6, .func (PySem.W.fnOf "value_at" "value_at" (defArgs s_value_at) (defBody s_value_at) (defScope s_value_at) .none kV6 dc6 pm6 an6 cd6 ct6), sl6⟩)
    (c6 : PySem.W.codeIn K cd6 "value_at" = true)
    (k6 : PySem.W.keepIn K (.ref f6) = true)
    (a7 : PySem.W.nsIn K mainGlobals "as_place" = some (some (.ref f7)))
    (l7 : K.lookup f7 = some ⟨oc7, od7, .func (PySem.W.fnOf "as_place" "as_place" (defArgs s_as_place) (defBody s_as_place) (defScope s_as_place) .none kV7 dc7 pm7 an7 cd7 ct7), sl7⟩)
    (c7 : PySem.W.codeIn K cd7 "as_place" = true)
    (k7 : PySem.W.keepIn K (.ref f7) = true)
    (a8 : PySem.W.nsIn K mainGlobals "need_place" = some (some (.ref f8)))
    (l8 : K.lookup f8 = some ⟨oc8, od8, .func (PySem.W.fnOf "need_place" "need_place" (defArgs s_need_place) (defBody s_need_place) (defScope s_need_place) .none kV8 dc8 pm8 an8 cd8 ct8), sl8⟩)
    (c8 : PySem.W.codeIn K cd8 "need_place" = true)
    (k8 : PySem.W.keepIn K (.ref f8) = true)
    (a9 : PySem.W.nsIn K mainGlobals "need_length" = some (some (.ref f9)))
    (l9 : K.lookup f9 = some ⟨oc9, od9, .func (PySem.W.fnOf "need_length" "need_length" (defArgs s_need_length) (defBody s_need_length) (defScope s_need_length) .none kV9 dc9 pm9 an9 cd9 ct9), sl9⟩)
    (c9 : PySem.W.codeIn K cd9 "need_length" = true)
    (k9 : PySem.W.keepIn K (.ref f9) = true)
    (a10 : PySem.W.nsIn K mainGlobals "is_pixel" = some (some (.ref f10)))
    (l10 : K.lookup f10 = some ⟨oc10, od10, .func (PySem.W.fnOf "is_pixel" "is_pixel" (defArgs s_is_pixel) (defBody s_is_pixel) (defScope s_is_pixel) .none kV10 dc10 pm10 an10 cd10 ct10), sl10⟩)
    (c10 : PySem.W.codeIn K cd10 "is_pixel" = true)
    (k10 : PySem.W.keepIn K (.ref f10) = true)
    (a11 : PySem.W.nsIn K mainGlobals "is_colour" = some (some (.ref f11)))
    (l11 : K.lookup f11 = some ⟨oc11, od11, .func (PySem.W.fnOf "is_colour" "is_colour" (defArgs s_is_colour) (defBody s_is_colour) (defScope s_is_colour) .none kV11 dc11 pm11 an11 cd11 ct11), sl11⟩)
    (c11 : PySem.W.codeIn K cd11 "is_colour" = true)
    (k11 : PySem.W.keepIn K (.ref f11) = true)
    (a12 : PySem.W.nsIn K mainGlobals "need_colour" = some (some (.ref f12)))
    (l12 : K.lookup f12 = some ⟨oc12, od12, .func (PySem.W.fnOf "need_colour" "need_colour" (defArgs s_need_colour) (defBody s_need_colour) (defScope s_need_colour) .none kV12 dc12 pm12 an12 cd12 ct12), sl12⟩)
    (c12 : PySem.W.codeIn K cd12 "need_colour" = true)
    (k12 : PySem.W.keepIn K (.ref f12) = true)
    (a13 : PySem.W.nsIn K mainGlobals "need_sizes" = some (some (.ref f13)))
    (l13 : K.lookup f13 = some ⟨oc13, od13, .func (PySem.W.fnOf "need_sizes" "need_sizes" (defArgs s_need_sizes) (defBody s_need_sizes) (defScope s_need_sizes) .none kV13 dc13 pm13 an13 cd13 ct13), sl13⟩)
    (c13 : PySem.W.codeIn K cd13 "need_sizes" = true)
    (k13 : PySem.W.keepIn K (.ref f13) = true)
    (a14 : PySem.W.nsIn K mainGlobals "is_inside" = some (some (.ref f14)))
    (l14 : K.lookup f14 = some ⟨oc14, od14, .func (PySem.W.fnOf "is_inside" "is_inside" (defArgs s_is_inside) (defBody s_is_inside) (defScope s_is_inside) .none kV14 dc14 pm14 an14 cd14 ct14), sl14⟩)
    (c14 : PySem.W.codeIn K cd14 "is_inside" = true)
    (k14 : PySem.W.keepIn K (.ref f14) = true)
    (a15 : PySem.W.nsIn K mainGlobals "need_pixel" = some (some (.ref f15)))
    (l15 : K.lookup f15 = some ⟨oc15, od15, .func (PySem.W.fnOf "need_pixel" "need_pixel" (defArgs s_need_pixel) (defBody s_need_pixel) (defScope s_need_pixel) .none kV15 dc15 pm15 an15 cd15 ct15), sl15⟩)
    (c15 : PySem.W.codeIn K cd15 "need_pixel" = true)
    (k15 : PySem.W.keepIn K (.ref f15) = true)
    (a16 : PySem.W.nsIn K mainGlobals "is_line" = some (some (.ref f16)))
    (l16 : K.lookup f16 = some ⟨oc16, od16, .func (PySem.W.fnOf "is_line" "is_line" (defArgs s_is_line) (defBody s_is_line) (defScope s_is_line) .none kV16 dc16 pm16 an16 cd16 ct16), sl16⟩)
    (c16 : PySem.W.codeIn K cd16 "is_line" = true)
    (k16 : PySem.W.keepIn K (.ref f16) = true)
    (a17 : PySem.W.nsIn K mainGlobals "wrong_line" = some (some (.ref f17)))
    (l17 : K.lookup f17 = some ⟨oc17, od17, .func (PySem.W.fnOf "wrong_line" "wrong_line" (defArgs s_wrong_line) (defBody s_wrong_line) (defScope s_wrong_line) .none kV17 dc17 pm17 an17 cd17 ct17), sl17⟩)
    (c17 : PySem.W.codeIn K cd17 "wrong_line" = true)
    (k17 : PySem.W.keepIn K (.ref f17) = true)
    (a18 : PySem.W.nsIn K mainGlobals "_law_pen" = some (some (.ref f18)))
    (l18 : K.lookup f18 = some ⟨oc18, od18, .func (PySem.W.fnOf "_law_pen" "_law_pen" (defArgs s_l_pen) (defBody s_l_pen) (defScope s_l_pen) .none kV18 dc18 pm18 an18 cd18 ct18), sl18⟩)
    (c18 : PySem.W.codeIn K cd18 "_law_pen" = true)
    (k18 : PySem.W.keepIn K (.ref f18) = true)
    (a19 : PySem.W.nsIn K mainGlobals "_law_draw" = some (some (.ref f19)))
    (l19 : K.lookup f19 = some ⟨oc19, od19, .func (PySem.W.fnOf "_law_draw" "_law_draw" (defArgs s_l_draw) (defBody s_l_draw) (defScope s_l_draw) .none kV19 dc19 pm19 an19 cd19 ct19), sl19⟩)
    (c19 : PySem.W.codeIn K cd19 "_law_draw" = true)
    (k19 : PySem.W.keepIn K (.ref f19) = true)
    (a20 : PySem.W.nsIn K mainGlobals "_law_pick" = some (some (.ref f20)))
    (l20 : K.lookup f20 = some ⟨oc20, od20, .func (PySem.W.fnOf "_law_pick" "_law_pick" (defArgs s_l_pick) (defBody s_l_pick) (defScope s_l_pick) .none kV20 dc20 pm20 an20 cd20 ct20), sl20⟩)
    (c20 : PySem.W.codeIn K cd20 "_law_pick" = true)
    (k20 : PySem.W.keepIn K (.ref f20) = true)
    (a21 : PySem.W.nsIn K mainGlobals "_law_place" = some (some (.ref f21)))
    (l21 : K.lookup f21 = some ⟨oc21, od21, .func (PySem.W.fnOf "_law_place" "_law_place" (defArgs s_l_place) (defBody s_l_place) (defScope s_l_place) .none kV21 dc21 pm21 an21 cd21 ct21), sl21⟩)
    (c21 : PySem.W.codeIn K cd21 "_law_place" = true)
    (k21 : PySem.W.keepIn K (.ref f21) = true)
    (a22 : PySem.W.nsIn K mainGlobals "_law_at" = some (some (.ref f22)))
    (l22 : K.lookup f22 = some ⟨oc22, od22, .func (PySem.W.fnOf "_law_at" "_law_at" (defArgs s_l_at) (defBody s_l_at) (defScope s_l_at) .none kV22 dc22 pm22 an22 cd22 ct22), sl22⟩)
    (c22 : PySem.W.codeIn K cd22 "_law_at" = true)
    (k22 : PySem.W.keepIn K (.ref f22) = true)
    (a23 : PySem.W.nsIn K mainGlobals "_law_built_place" = some (some (.ref f23)))
    (l23 : K.lookup f23 = some ⟨oc23, od23, .func (PySem.W.fnOf "_law_built_place" "_law_built_place" (defArgs s_l_built_place) (defBody s_l_built_place) (defScope s_l_built_place) .none kV23 dc23 pm23 an23 cd23 ct23), sl23⟩)
    (c23 : PySem.W.codeIn K cd23 "_law_built_place" = true)
    (k23 : PySem.W.keepIn K (.ref f23) = true)
    (a24 : PySem.W.nsIn K mainGlobals "_law_box" = some (some (.ref f24)))
    (l24 : K.lookup f24 = some ⟨oc24, od24, .func (PySem.W.fnOf "_law_box" "_law_box" (defArgs s_l_box) (defBody s_l_box) (defScope s_l_box) .none kV24 dc24 pm24 an24 cd24 ct24), sl24⟩)
    (c24 : PySem.W.codeIn K cd24 "_law_box" = true)
    (k24 : PySem.W.keepIn K (.ref f24) = true)
    (a25 : PySem.W.nsIn K mainGlobals "_law_built_box" = some (some (.ref f25)))
    (l25 : K.lookup f25 = some ⟨oc25, od25, .func (PySem.W.fnOf "_law_built_box" "_law_built_box" (defArgs s_l_built_box) (defBody s_l_built_box) (defScope s_l_built_box) .none kV25 dc25 pm25 an25 cd25 ct25), sl25⟩)
    (c25 : PySem.W.codeIn K cd25 "_law_built_box" = true)
    (k25 : PySem.W.keepIn K (.ref f25) = true)
    (a26 : PySem.W.nsIn K mainGlobals "_law_ends" = some (some (.ref f26)))
    (l26 : K.lookup f26 = some ⟨oc26, od26, .func (PySem.W.fnOf "_law_ends" "_law_ends" (defArgs s_l_ends) (defBody s_l_ends) (defScope s_l_ends) .none kV26 dc26 pm26 an26 cd26 ct26), sl26⟩)
    (c26 : PySem.W.codeIn K cd26 "_law_ends" = true)
    (k26 : PySem.W.keepIn K (.ref f26) = true)
    (a27 : PySem.W.nsIn K mainGlobals "_law_built" = some (some (.ref f27)))
    (l27 : K.lookup f27 = some ⟨oc27, od27, .func (PySem.W.fnOf "_law_built" "_law_built" (defArgs s_l_built) (defBody s_l_built) (defScope s_l_built) .none kV27 dc27 pm27 an27 cd27 ct27), sl27⟩)
    (c27 : PySem.W.codeIn K cd27 "_law_built" = true)
    (k27 : PySem.W.keepIn K (.ref f27) = true)
    (a28 : PySem.W.nsIn K mainGlobals "_law_is_pixel" = some (some (.ref f28)))
    (l28 : K.lookup f28 = some ⟨oc28, od28, .func (PySem.W.fnOf "_law_is_pixel" "_law_is_pixel" (defArgs s_l_is_pixel) (defBody s_l_is_pixel) (defScope s_l_is_pixel) .none kV28 dc28 pm28 an28 cd28 ct28), sl28⟩)
    (c28 : PySem.W.codeIn K cd28 "_law_is_pixel" = true)
    (k28 : PySem.W.keepIn K (.ref f28) = true)
    (a29 : PySem.W.nsIn K mainGlobals "_law_spots" = some (some (.ref f29)))
    (l29 : K.lookup f29 = some ⟨oc29, od29, .func (PySem.W.fnOf "_law_spots" "_law_spots" (defArgs s_l_spots) (defBody s_l_spots) (defScope s_l_spots) .none kV29 dc29 pm29 an29 cd29 ct29), sl29⟩)
    (c29 : PySem.W.codeIn K cd29 "_law_spots" = true)
    (k29 : PySem.W.keepIn K (.ref f29) = true)
    (a30 : PySem.W.nsIn K mainGlobals "_law_within" = some (some (.ref f30)))
    (l30 : K.lookup f30 = some ⟨oc30, od30, .func (PySem.W.fnOf "_law_within" "_law_within" (defArgs s_l_within) (defBody s_l_within) (defScope s_l_within) .none kV30 dc30 pm30 an30 cd30 ct30), sl30⟩)
    (c30 : PySem.W.codeIn K cd30 "_law_within" = true)
    (k30 : PySem.W.keepIn K (.ref f30) = true)
    (a31 : PySem.W.nsIn K mainGlobals "_law_copied" = some (some (.ref f31)))
    (l31 : K.lookup f31 = some ⟨oc31, od31, .func (PySem.W.fnOf "_law_copied" "_law_copied" (defArgs s_l_copied) (defBody s_l_copied) (defScope s_l_copied) .none kV31 dc31 pm31 an31 cd31 ct31), sl31⟩)
    (c31 : PySem.W.codeIn K cd31 "_law_copied" = true)
    (k31 : PySem.W.keepIn K (.ref f31) = true)
    (a32 : PySem.W.nsIn K mainGlobals "_law_lines" = some (some (.ref f32)))
    (l32 : K.lookup f32 = some ⟨oc32, od32, .func (PySem.W.fnOf "_law_lines" "_law_lines" (defArgs s_l_lines) (defBody s_l_lines) (defScope s_l_lines) .none kV32 dc32 pm32 an32 cd32 ct32), sl32⟩)
    (c32 : PySem.W.codeIn K cd32 "_law_lines" = true)
    (k32 : PySem.W.keepIn K (.ref f32) = true)
    (a33 : PySem.W.nsIn K mainGlobals "_law_noise" = some (some (.ref f33)))
    (l33 : K.lookup f33 = some ⟨oc33, od33, .func (PySem.W.fnOf "_law_noise" "_law_noise" (defArgs s_l_noise) (defBody s_l_noise) (defScope s_l_noise) .none kV33 dc33 pm33 an33 cd33 ct33), sl33⟩)
    (c33 : PySem.W.codeIn K cd33 "_law_noise" = true)
    (k33 : PySem.W.keepIn K (.ref f33) = true)
    (a34 : PySem.W.nsIn K mainGlobals "_law_near" = some (some (.ref f34)))
    (l34 : K.lookup f34 = some ⟨oc34, od34, .func (PySem.W.fnOf "_law_near" "_law_near" (defArgs s_l_near) (defBody s_l_near) (defScope s_l_near) .none kV34 dc34 pm34 an34 cd34 ct34), sl34⟩)
    (c34 : PySem.W.codeIn K cd34 "_law_near" = true)
    (k34 : PySem.W.keepIn K (.ref f34) = true)
    (a35 : PySem.W.findIn K (.ref CP) "__init__" = some (some (.ref f35)))
    (i35 : PySem.W.isFn K (.ref f35) = true)
    (l35 : K.lookup f35 = some ⟨oc35, od35, .func (PySem.W.fnOf "__init__" "Picture.__init__" (defArgs s_Picture_init) (defBody s_Picture_init) (defScope s_Picture_init) .none kV35 dc35 pm35 an35 cd35 ct35), sl35⟩)
    (c35 : PySem.W.codeIn K cd35 "Picture.__init__" = true)
    (k35 : PySem.W.keepIn K (.ref f35) = true)
    (a36 : PySem.W.findIn K (.ref CP) "__getitem__" = some (some (.ref f36)))
    (i36 : PySem.W.isFn K (.ref f36) = true)
    (l36 : K.lookup f36 = some ⟨oc36, od36, .func (PySem.W.fnOf "__getitem__" "Picture.__getitem__" (defArgs s_Picture_getitem) (defBody s_Picture_getitem) (defScope s_Picture_getitem) .none kV36 dc36 pm36 an36 cd36 ct36), sl36⟩)
    (c36 : PySem.W.codeIn K cd36 "Picture.__getitem__" = true)
    (k36 : PySem.W.keepIn K (.ref f36) = true)
    (fiG : PySem.W.fnIn K f36 = true)
    (gCV : PySem.W.nsIn K mainGlobals "Canvas" = some (some (.ref CV)))
    (pgV : PySem.W.plainGet K CV Str.empty = true)
    (hdV : PySem.W.hasDictIn K CV = true)
    (poV : PySem.W.plainOver K CV = true)
    (saV : PySem.W.findIn K (.ref CV) "__setattr__" = some (some (.builtin "object.__setattr__")))
    (n1V : PySem.W.findIn K (.ref CV) "width" = some none)
    (n2V : PySem.W.findIn K (.ref CV) "height" = some none)
    (n3V : PySem.W.findIn K (.ref CV) "lines" = some none)
    (mkV : PySem.W.makesIn K CV = true)
    (kcV : PySem.W.keepIn K (.ref CV) = true)
    (a37 : PySem.W.findIn K (.ref CV) "__init__" = some (some (.ref f37)))
    (i37 : PySem.W.isFn K (.ref f37) = true)
    (l37 : K.lookup f37 = some ⟨oc37, od37, .func (PySem.W.fnOf "__init__" "Canvas.__init__" (defArgs s_Canvas_init) (defBody s_Canvas_init) (defScope s_Canvas_init) .none kV37 dc37 pm37 an37 cd37 ct37), sl37⟩)
    (c37 : PySem.W.codeIn K cd37 "Canvas.__init__" = true)
    (k37 : PySem.W.keepIn K (.ref f37) = true)
    (a38 : PySem.W.findIn K (.ref CV) "picture" = some (some (.ref f38)))
    (i38 : PySem.W.isFn K (.ref f38) = true)
    (l38 : K.lookup f38 = some ⟨oc38, od38, .func (PySem.W.fnOf "picture" "Canvas.picture" (defArgs s_Canvas_picture) (defBody s_Canvas_picture) (defScope s_Canvas_picture) .none kV38 dc38 pm38 an38 cd38 ct38), sl38⟩)
    (c38 : PySem.W.codeIn K cd38 "Canvas.picture" = true)
    (k38 : PySem.W.keepIn K (.ref f38) = true)
    (a39 : PySem.W.findIn K (.ref CV) "__setitem__" = some (some (.ref f39)))
    (i39 : PySem.W.isFn K (.ref f39) = true)
    (l39 : K.lookup f39 = some ⟨oc39, od39, .func (PySem.W.fnOf "__setitem__" "Canvas.__setitem__" (defArgs s_Canvas_setitem) (defBody s_Canvas_setitem) (defScope s_Canvas_setitem) .none kV39 dc39 pm39 an39 cd39 ct39), sl39⟩)
    (c39 : PySem.W.codeIn K cd39 "Canvas.__setitem__" = true)
    (k39 : PySem.W.keepIn K (.ref f39) = true)
    (nsq : PySem.W.noSeq K CV = true)
    (a40 : PySem.W.nsIn K mainGlobals "pixels_in" = some (some (.ref f40)))
    (l40 : K.lookup f40 = some ⟨oc40, od40, .func (PySem.W.fnOf "pixels_in" "pixels_in" (defArgs s_pixels_in) (defBody s_pixels_in) (defScope s_pixels_in) .none kV40 dc40 pm40 an40 cd40 ct40), sl40⟩)
    (c40 : PySem.W.codeIn K cd40 "pixels_in" = true)
    (k40 : PySem.W.keepIn K (.ref f40) = true)
    (gDD : PySem.W.nsIn K mainGlobals "Deed" = some (some (.ref DD)))
    (gDP : PySem.W.nsIn K mainGlobals "Pointed" = some (some (.ref DP)))
    (gDB : PySem.W.nsIn K mainGlobals "Boxed" = some (some (.ref DB)))
    (gCO : PySem.W.nsIn K mainGlobals "Copy" = some (some (.ref CO)))
    (pgCO : PySem.W.plainGet K CO Str.empty = true)
    (hdCO : PySem.W.hasDictIn K CO = true)
    (poCO : PySem.W.plainOver K CO = true)
    (saCO : PySem.W.findIn K (.ref CO) "__setattr__" = some (some (.builtin "object.__setattr__")))
    (mkCO : PySem.W.makesIn K CO = true)
    (kcCO : PySem.W.keepIn K (.ref CO) = true)
    (n0CO : PySem.W.findIn K (.ref CO) "box" = some none)
    (n1CO : PySem.W.findIn K (.ref CO) "x" = some none)
    (n2CO : PySem.W.findIn K (.ref CO) "y" = some none)
    (n3CO : PySem.W.findIn K (.ref CO) "is_deed" = some none)
    (nCO : C ≠ CO)
    (nXO : CX ≠ CO)
    (a41 : PySem.W.findIn K (.ref DD) "__init__" = some (some (.ref f41)))
    (i41 : PySem.W.isFn K (.ref f41) = true)
    (l41 : K.lookup f41 = some ⟨oc41, od41, .func (PySem.W.fnOf "__init__" "Deed.__init__" (defArgs s_Deed_init) (defBody s_Deed_init) (defScope s_Deed_init) .none kV41 dc41 pm41 an41 cd41 ct41), sl41⟩)
    (c41 : PySem.W.codeIn K cd41 "Deed.__init__" = true)
    (k41 : PySem.W.keepIn K (.ref f41) = true)
    (tfD : PySem.W.typeIn K (.ref f41) = some (.type "function"))
    (fnD : PySem.W.fnIn K f41 = true)
    (apt : PySem.W.findIn K (.ref DP) "__init__" = some (some (.ref fpt)))
    (lpt : K.lookup fpt = some ⟨ocpt, odpt, .func (PySem.W.ksFn "__init__" "Pointed.__init__" (defArgs s_Pointed_init) (defBody s_Pointed_init) (defScope s_Pointed_init) .none kVpt dcpt pmpt anpt (.ref cdapt) ctpt ccpt), slpt⟩)
    (cpt : PySem.W.codeIn K (.ref cdapt) "Pointed.__init__" = true)
    (lkpt : K.lookup cdapt = some ⟨cclpt, cddpt, .fields cvspt, ccspt⟩)
    (vkpt : cvspt[2]? = some (Value.str filept tfpt))
    (fkpt : ((l.prog.main.file : Str) == filept) = true)
    (lccpt : K.lookup ccpt = some ⟨clvpt, cldpt, .cell (some (.ref DP)), cslpt⟩)
    (clpt : PySem.W.clsIn K DP = some cdpt)
    (tfpt : PySem.W.typeIn K (.ref fpt) = some (.type "function"))
    (fnpt : PySem.W.fnIn K fpt = true)
    (ispt : PySem.W.isFn K (.ref fpt) = true)
    (abx : PySem.W.findIn K (.ref DB) "__init__" = some (some (.ref fbx)))
    (lbx : K.lookup fbx = some ⟨ocbx, odbx, .func (PySem.W.ksFn "__init__" "Boxed.__init__" (defArgs s_Boxed_init) (defBody s_Boxed_init) (defScope s_Boxed_init) .none kVbx dcbx pmbx anbx (.ref cdabx) ctbx ccbx), slbx⟩)
    (cbx : PySem.W.codeIn K (.ref cdabx) "Boxed.__init__" = true)
    (lkbx : K.lookup cdabx = some ⟨cclbx, cddbx, .fields cvsbx, ccsbx⟩)
    (vkbx : cvsbx[2]? = some (Value.str filebx tfbx))
    (fkbx : ((l.prog.main.file : Str) == filebx) = true)
    (lccbx : K.lookup ccbx = some ⟨clvbx, cldbx, .cell (some (.ref DB)), cslbx⟩)
    (clbx : PySem.W.clsIn K DB = some cdbx)
    (tfbx : PySem.W.typeIn K (.ref fbx) = some (.type "function"))
    (fnbx : PySem.W.fnIn K fbx = true)
    (isbx : PySem.W.isFn K (.ref fbx) = true)
    (acp : PySem.W.findIn K (.ref CO) "__init__" = some (some (.ref fcp)))
    (lcp : K.lookup fcp = some ⟨occp, odcp, .func (PySem.W.ksFn "__init__" "Copy.__init__" (defArgs s_Copy_init) (defBody s_Copy_init) (defScope s_Copy_init) .none kVcp dccp pmcp ancp (.ref cdacp) ctcp cccp), slcp⟩)
    (ccp : PySem.W.codeIn K (.ref cdacp) "Copy.__init__" = true)
    (lkcp : K.lookup cdacp = some ⟨cclcp, cddcp, .fields cvscp, ccscp⟩)
    (vkcp : cvscp[2]? = some (Value.str filecp tfcp))
    (fkcp : ((l.prog.main.file : Str) == filecp) = true)
    (lcccp : K.lookup cccp = some ⟨clvcp, cldcp, .cell (some (.ref CO)), cslcp⟩)
    (clcp : PySem.W.clsIn K CO = some cdcp)
    (tfcp : PySem.W.typeIn K (.ref fcp) = some (.type "function"))
    (fncp : PySem.W.fnIn K fcp = true)
    (iscp : PySem.W.isFn K (.ref fcp) = true)
    (ksCOcp : PySem.W.ks_superIn K CO CO "__init__" = some (some (.ref fbx)))
    (mrCOcp : PySem.W.mroIn K CO (.ref CO) = some true)
    (ksCObx : PySem.W.ks_superIn K CO DB "__init__" = some (some (.ref fpt)))
    (mrCObx : PySem.W.mroIn K CO (.ref DB) = some true)
    (ksCOpt : PySem.W.ks_superIn K CO DP "__init__" = some (some (.ref f41)))
    (mrCOpt : PySem.W.mroIn K CO (.ref DP) = some true)
    (a42 : PySem.W.findIn K (.ref CO) "point" = some (some (.ref f42)))
    (i42 : PySem.W.isFn K (.ref f42) = true)
    (l42 : K.lookup f42 = some ⟨oc42, od42, .func (PySem.W.fnOf "point" "Pointed.point" (defArgs s_Pointed_point) (defBody s_Pointed_point) (defScope s_Pointed_point) .none kV42 dc42 pm42 an42 cd42 ct42), sl42⟩)
    (c42 : PySem.W.codeIn K cd42 "Pointed.point" = true)
    (k42 : PySem.W.keepIn K (.ref f42) = true)
    (a43 : PySem.W.findIn K (.ref CO) "on" = some (some (.ref f43)))
    (i43 : PySem.W.isFn K (.ref f43) = true)
    (l43 : K.lookup f43 = some ⟨oc43, od43, .func (PySem.W.fnOf "on" "Copy.on" (defArgs s_Copy_on) (defBody s_Copy_on) (defScope s_Copy_on) .none kV43 dc43 pm43 an43 cd43 ct43), sl43⟩)
    (c43 : PySem.W.codeIn K cd43 "Copy.on" = true)
    (k43 : PySem.W.keepIn K (.ref f43) = true)
    (a0 : PySem.W.nsIn K mainGlobals "law" = some (some (.ref f0)))
    (l0 : K.lookup f0 = some ⟨oc0, od0, .func (PySem.W.fnOf "law" "law" (defArgs s_law) (defBody s_law) (defScope s_law) .none kV0 dc0 pm0 an0 cd0 ct0), sl0⟩)
    (c0 : PySem.W.codeIn K cd0 "law" = true)
    (k0 : PySem.W.keepIn K (.ref f0) = true) :
    ∀ base : Heap, K.In base → base.Ns mainGlobals mg → FnG l.prog w K mg base (L2.CX l.prog w) 12 fa (spLaw K) := by
  have e := hfa.symm.trans (PySem.W.mg_of X G a0)
  cases e
  have T : Txt K mg := ⟨PySem.W.mg_none_of X G z_ValueError, PySem.W.mg_none_of X G z_abs, PySem.W.mg_none_of X G z_all, PySem.W.mg_none_of X G z_bool, PySem.W.mg_none_of X G z_enumerate, PySem.W.mg_none_of X G z_int, PySem.W.mg_none_of X G z_isinstance, PySem.W.mg_none_of X G z_len, PySem.W.mg_none_of X G z_list, PySem.W.mg_none_of X G z_max, PySem.W.mg_none_of X G z_min, PySem.W.mg_none_of X G z_range, PySem.W.mg_none_of X G z_repr, PySem.W.mg_none_of X G z_str, PySem.W.mg_none_of X G z_super, PySem.W.mg_none_of X G z_tuple, PySem.W.mg_none_of X G z_zip⟩
  have C0 : PlC K mg C := ⟨⟨pg, hd, po, sa⟩, n1, n2, n3, PySem.W.mg_of X G gC, sf, plainMro_mk cC pm, ⟨ne1, ne2⟩, ha, hn, tk, mo, kitOne_mk iC tC sIC, sI, ⟨⟨_, rA, .inr ⟨_, rfl⟩⟩, ⟨_, oA⟩, ⟨_, pA⟩, sIC⟩, ⟨⟨_, rS, .inl rfl⟩, ⟨_, oS⟩, ⟨_, pS⟩, sIC⟩, hi⟩
  have O_BadPlace : OexC K CB := ⟨⟨nmBadPlace, qnBadPlace, NBBadPlace, bsBadPlace, bmBadPlace, snBadPlace, subBadPlace, abBadPlace, colBadPlace, ddBadPlace, q0BadPlace, q1BadPlace, q2BadPlace, q3BadPlace, q5BadPlace, lBadPlace, rBadPlace⟩, saBadPlace, exBadPlace, tyBadPlace, kBadPlace⟩
  have U_BadPlace : SupC l.prog K mg CB ccBadPlace cdaBadPlace := ⟨⟨_, _, _, _, _, _, lkBadPlace, vkBadPlace, fkBadPlace⟩, ⟨_, _, _, lccBadPlace⟩, ⟨_, clBadPlace⟩, mrBadPlace, PySem.W.mg_none_of X G z_super, top, opq, iniBadPlace, isVBadPlace⟩
  have X_BadPlace : ExcC K CB := ⟨gaBadPlace, ggBadPlace, exBadPlace, hdBadPlace, haBadPlace, hn, tk, moBadPlace⟩
  have F_BadPlace : XfC K CB := ⟨gaBadPlace, ggBadPlace, exBadPlace, hdBadPlace⟩
  have O_BadSize : OexC K CS := ⟨⟨nmBadSize, qnBadSize, NBBadSize, bsBadSize, bmBadSize, snBadSize, subBadSize, abBadSize, colBadSize, ddBadSize, q0BadSize, q1BadSize, q2BadSize, q3BadSize, q5BadSize, lBadSize, rBadSize⟩, saBadSize, exBadSize, tyBadSize, kBadSize⟩
  have U_BadSize : SupC l.prog K mg CS ccBadSize cdaBadSize := ⟨⟨_, _, _, _, _, _, lkBadSize, vkBadSize, fkBadSize⟩, ⟨_, _, _, lccBadSize⟩, ⟨_, clBadSize⟩, mrBadSize, PySem.W.mg_none_of X G z_super, top, opq, iniBadSize, isVBadSize⟩
  have X_BadSize : ExcC K CS := ⟨gaBadSize, ggBadSize, exBadSize, hdBadSize, haBadSize, hn, tk, moBadSize⟩
  have F_BadSize : XfC K CS := ⟨gaBadSize, ggBadSize, exBadSize, hdBadSize⟩
  have O_BadColour : OexC K CK := ⟨⟨nmBadColour, qnBadColour, NBBadColour, bsBadColour, bmBadColour, snBadColour, subBadColour, abBadColour, colBadColour, ddBadColour, q0BadColour, q1BadColour, q2BadColour, q3BadColour, q5BadColour, lBadColour, rBadColour⟩, saBadColour, exBadColour, tyBadColour, kBadColour⟩
  have U_BadColour : SupC l.prog K mg CK ccBadColour cdaBadColour := ⟨⟨_, _, _, _, _, _, lkBadColour, vkBadColour, fkBadColour⟩, ⟨_, _, _, lccBadColour⟩, ⟨_, clBadColour⟩, mrBadColour, PySem.W.mg_none_of X G z_super, top, opq, iniBadColour, isVBadColour⟩
  have X_BadColour : ExcC K CK := ⟨gaBadColour, ggBadColour, exBadColour, hdBadColour, haBadColour, hn, tk, moBadColour⟩
  have F_BadColour : XfC K CK := ⟨gaBadColour, ggBadColour, exBadColour, hdBadColour⟩
  have O_BadPixel : OexC K CE := ⟨⟨nmBadPixel, qnBadPixel, NBBadPixel, bsBadPixel, bmBadPixel, snBadPixel, subBadPixel, abBadPixel, colBadPixel, ddBadPixel, q0BadPixel, q1BadPixel, q2BadPixel, q3BadPixel, q5BadPixel, lBadPixel, rBadPixel⟩, saBadPixel, exBadPixel, tyBadPixel, kBadPixel⟩
  have U_BadPixel : SupC l.prog K mg CE ccBadPixel cdaBadPixel := ⟨⟨_, _, _, _, _, _, lkBadPixel, vkBadPixel, fkBadPixel⟩, ⟨_, _, _, lccBadPixel⟩, ⟨_, clBadPixel⟩, mrBadPixel, PySem.W.mg_none_of X G z_super, top, opq, iniBadPixel, isVBadPixel⟩
  have X_BadPixel : ExcC K CE := ⟨gaBadPixel, ggBadPixel, exBadPixel, hdBadPixel, haBadPixel, hn, tk, moBadPixel⟩
  have F_BadPixel : XfC K CE := ⟨gaBadPixel, ggBadPixel, exBadPixel, hdBadPixel⟩
  have BX0 : BxC K mg CX := ⟨⟨xpg, xhd, xpo, xsa⟩, xn1, xn2, xn3, xn4, PySem.W.mg_of X G gCX, xha, hn, tk, xmo⟩
  have F1 := funD1_mk (st := s_Place_init) l1 t1 c1 k1
  have b1 : Binds K _ ["self", "slope", "offset", "odd"] [] := FunD.full F1 fun _ _ _ _ _ _ _ us its h1 h2 => match us, h1, its, h2 with | [_, _, _, _], _, [_], _ => ⟨_, rfl, rfl⟩
  have d_Place_call : MetAt K C "__call__" "Place.__call__" s_Place_call ["self", "size"] := metAt_mk a2 i2 l2 c2 k2 (fun _ _ _ _ _ _ us hl => match us, hl with | [_, _], _ => rfl)
  have FU2 := fun_mk (st := s_Place_call) l2 c2 k2
  have d_Box_init : MetAt K CX "__init__" "Box.__init__" s_Box_init ["self", "x0", "x1", "y0", "y1"] := metAt_mk a3 i3 l3 c3 k3 (fun _ _ _ _ _ _ us hl => match us, hl with | [_, _, _, _, _], _ => rfl)
  have FU3 := fun_mk (st := s_Box_init) l3 c3 k3
  have d_Box_call : MetAt K CX "__call__" "Box.__call__" s_Box_call ["self", "width", "height"] := metAt_mk a4 i4 l4 c4 k4 (fun _ _ _ _ _ _ us hl => match us, hl with | [_, _, _], _ => rfl)
  have FU4 := fun_mk (st := s_Box_call) l4 c4 k4
  have Y0 : PcC K mg CP "DIGITS_pictures" := ⟨⟨ypg, yhd, ypo, ysa⟩, yn1, yn2, yn3, PySem.W.mg_of X G gCP, ⟨_, PySem.W.mg_of X G gMS⟩, ⟨_, PySem.W.mg_of X G gDG⟩, yha, hn, tk, ymo⟩
  have d_is_whole : DefAt K mg "is_whole" s_is_whole ["value"] := defAt_mk X G a5 l5 c5 k5 (fun _ _ _ _ _ _ us hl => match us, hl with | [_], _ => rfl)
  have d_value_at : DefAt K mg "value_at" s_value_at ["slope", "offset", "odd", "size"] := defAt_mk X G a6 l6 c6 k6 (fun _ _ _ _ _ _ us hl => match us, hl with | [_, _, _, _], _ => rfl)
  have d_as_place : DefAt K mg "as_place" s_as_place ["value"] := defAt_mk X G a7 l7 c7 k7 (fun _ _ _ _ _ _ us hl => match us, hl with | [_], _ => rfl)
  have d_need_place : DefAt K mg "need_place" s_need_place ["value", "part"] := defAt_mk X G a8 l8 c8 k8 (fun _ _ _ _ _ _ us hl => match us, hl with | [_, _], _ => rfl)
  have d_need_length : DefAt K mg "need_length" s_need_length ["value", "part"] := defAt_mk X G a9 l9 c9 k9 (fun _ _ _ _ _ _ us hl => match us, hl with | [_, _], _ => rfl)
  have d_is_pixel : DefAt K mg "is_pixel" s_is_pixel ["width", "height", "x", "y"] := defAt_mk X G a10 l10 c10 k10 (fun _ _ _ _ _ _ us hl => match us, hl with | [_, _, _, _], _ => rfl)
  have d_is_colour : DefAt K mg "is_colour" s_is_colour ["value"] := defAt_mk X G a11 l11 c11 k11 (fun _ _ _ _ _ _ us hl => match us, hl with | [_], _ => rfl)
  have d_need_colour : DefAt K mg "need_colour" s_need_colour ["value"] := defAt_mk X G a12 l12 c12 k12 (fun _ _ _ _ _ _ us hl => match us, hl with | [_], _ => rfl)
  have d_need_sizes : DefAt K mg "need_sizes" s_need_sizes ["width", "height"] := defAt_mk X G a13 l13 c13 k13 (fun _ _ _ _ _ _ us hl => match us, hl with | [_, _], _ => rfl)
  have d_is_inside : DefAt K mg "is_inside" s_is_inside ["rows", "x", "y"] := defAt_mk X G a14 l14 c14 k14 (fun _ _ _ _ _ _ us hl => match us, hl with | [_, _, _], _ => rfl)
  have d_need_pixel : DefAt K mg "need_pixel" s_need_pixel ["rows", "x", "y"] := defAt_mk X G a15 l15 c15 k15 (fun _ _ _ _ _ _ us hl => match us, hl with | [_, _, _], _ => rfl)
  have d_is_line : DefAt K mg "is_line" s_is_line ["value"] := defAt_mk X G a16 l16 c16 k16 (fun _ _ _ _ _ _ us hl => match us, hl with | [_], _ => rfl)
  have d_wrong_line : DefAt K mg "wrong_line" s_wrong_line ["rows"] := defAt_mk X G a17 l17 c17 k17 (fun _ _ _ _ _ _ us hl => match us, hl with | [_], _ => rfl)
  have d_l_pen : DefAt K mg "_law_pen" s_l_pen ["_law_script"] := defAt_mk X G a18 l18 c18 k18 (fun _ _ _ _ _ _ us hl => match us, hl with | [_], _ => rfl)
  have d_l_draw : DefAt K mg "_law_draw" s_l_draw ["_law_pen_here", "_law_many"] := defAt_mk X G a19 l19 c19 k19 (fun _ _ _ _ _ _ us hl => match us, hl with | [_, _], _ => rfl)
  have d_l_pick : DefAt K mg "_law_pick" s_l_pick ["_law_pen_here", "_law_some"] := defAt_mk X G a20 l20 c20 k20 (fun _ _ _ _ _ _ us hl => match us, hl with | [_, _], _ => rfl)
  have d_l_place : DefAt K mg "_law_place" s_l_place ["_law_pen_here"] := defAt_mk X G a21 l21 c21 k21 (fun _ _ _ _ _ _ us hl => match us, hl with | [_], _ => rfl)
  have d_l_at : DefAt K mg "_law_at" s_l_at ["_law_place_here", "_law_size"] := defAt_mk X G a22 l22 c22 k22 (fun _ _ _ _ _ _ us hl => match us, hl with | [_, _], _ => rfl)
  have d_l_built_place : DefAt K mg "_law_built_place" s_l_built_place ["_law_pen_here", "_law_place_here"] := defAt_mk X G a23 l23 c23 k23 (fun _ _ _ _ _ _ us hl => match us, hl with | [_, _], _ => rfl)
  have d_l_box : DefAt K mg "_law_box" s_l_box ["_law_pen_here"] := defAt_mk X G a24 l24 c24 k24 (fun _ _ _ _ _ _ us hl => match us, hl with | [_], _ => rfl)
  have d_l_built_box : DefAt K mg "_law_built_box" s_l_built_box ["_law_pen_here", "_law_four"] := defAt_mk X G a25 l25 c25 k25 (fun _ _ _ _ _ _ us hl => match us, hl with | [_, _], _ => rfl)
  have d_l_ends : DefAt K mg "_law_ends" s_l_ends ["_law_box_here", "_law_width", "_law_height"] := defAt_mk X G a26 l26 c26 k26 (fun _ _ _ _ _ _ us hl => match us, hl with | [_, _, _], _ => rfl)
  have d_l_built : DefAt K mg "_law_built" s_l_built ["_law_pen_here", "_law_told"] := defAt_mk X G a27 l27 c27 k27 (fun _ _ _ _ _ _ us hl => match us, hl with | [_, _], _ => rfl)
  have d_l_is_pixel : DefAt K mg "_law_is_pixel" s_l_is_pixel ["_law_grid", "_law_x", "_law_y"] := defAt_mk X G a28 l28 c28 k28 (fun _ _ _ _ _ _ us hl => match us, hl with | [_, _, _], _ => rfl)
  have d_l_spots : DefAt K mg "_law_spots" s_l_spots ["_law_grid"] := defAt_mk X G a29 l29 c29 k29 (fun _ _ _ _ _ _ us hl => match us, hl with | [_], _ => rfl)
  have d_l_within : DefAt K mg "_law_within" s_l_within ["_law_grid", "_law_box_here"] := defAt_mk X G a30 l30 c30 k30 (fun _ _ _ _ _ _ us hl => match us, hl with | [_, _], _ => rfl)
  have d_l_copied : DefAt K mg "_law_copied" s_l_copied ["_law_grid", "_law_told"] := defAt_mk X G a31 l31 c31 k31 (fun _ _ _ _ _ _ us hl => match us, hl with | [_, _], _ => rfl)
  have d_l_lines : DefAt K mg "_law_lines" s_l_lines ["_law_grid"] := defAt_mk X G a32 l32 c32 k32 (fun _ _ _ _ _ _ us hl => match us, hl with | [_], _ => rfl)
  have d_l_noise : DefAt K mg "_law_noise" s_l_noise ["_law_pen_here", "_law_canvas"] := defAt_mk X G a33 l33 c33 k33 (fun _ _ _ _ _ _ us hl => match us, hl with | [_, _], _ => rfl)
  have d_l_near : DefAt K mg "_law_near" s_l_near ["_law_pen_here", "_law_box_here"] := defAt_mk X G a34 l34 c34 k34 (fun _ _ _ _ _ _ us hl => match us, hl with | [_, _], _ => rfl)
  have d_Picture_init : MetAt K CP "__init__" "Picture.__init__" s_Picture_init ["self", "rows"] := metAt_mk a35 i35 l35 c35 k35 (fun _ _ _ _ _ _ us hl => match us, hl with | [_, _], _ => rfl)
  have FY := fun_mk (st := s_Picture_init) l35 c35 k35
  have d_Picture_getitem : MetAt K CP "__getitem__" "Picture.__getitem__" s_Picture_getitem ["self", "at"] := metAt_mk a36 i36 l36 c36 k36 (fun _ _ _ _ _ _ us hl => match us, hl with | [_, _], _ => rfl)
  have V0 : CvC K mg CV := ⟨⟨pgV, hdV, poV, saV⟩, n1V, n2V, n3V, PySem.W.mg_of X G gCV⟩
  have d_Canvas_init : MetAt K CV "__init__" "Canvas.__init__" s_Canvas_init ["self", "width", "height"] := metAt_mk a37 i37 l37 c37 k37 (fun _ _ _ _ _ _ us hl => match us, hl with | [_, _, _], _ => rfl)
  have FV_init := fun_mk (st := s_Canvas_init) l37 c37 k37
  have d_Canvas_picture : MetAt K CV "picture" "Canvas.picture" s_Canvas_picture ["self"] := metAt_mk a38 i38 l38 c38 k38 (fun _ _ _ _ _ _ us hl => match us, hl with | [_], _ => rfl)
  have FV_picture := fun_mk (st := s_Canvas_picture) l38 c38 k38
  have d_Canvas_setitem : MetAt K CV "__setitem__" "Canvas.__setitem__" s_Canvas_setitem ["self", "at", "worth"] := metAt_mk a39 i39 l39 c39 k39 (fun _ _ _ _ _ _ us hl => match us, hl with | [_, _, _], _ => rfl)
  have FV_setitem := fun_mk (st := s_Canvas_setitem) l39 c39 k39
  have FG := fun_mk (st := s_pixels_in) l40 c40 k40
  have D0 : DfC K CO "box" "x" "y" "is_deed" := ⟨⟨pgCO, hdCO, poCO, saCO⟩, n0CO, n1CO, n2CO, n3CO⟩
  have d_Deed_init : MetAt K DD "__init__" "Deed.__init__" s_Deed_init ["self"] := metAt_mk a41 i41 l41 c41 k41 (fun _ _ _ _ _ _ us hl => match us, hl with | [_], _ => rfl)
  have FU41 := fun_mk (st := s_Deed_init) l41 c41 k41
  have U_pt : SupD l.prog K mg DP ccpt cdapt := ⟨⟨_, _, _, _, _, _, lkpt, vkpt, fkpt⟩, ⟨_, _, _, lccpt⟩, ⟨_, clpt⟩, PySem.W.mg_none_of X G z_super, top, opq⟩
  have U_bx : SupD l.prog K mg DB ccbx cdabx := ⟨⟨_, _, _, _, _, _, lkbx, vkbx, fkbx⟩, ⟨_, _, _, lccbx⟩, ⟨_, clbx⟩, PySem.W.mg_none_of X G z_super, top, opq⟩
  have U_cp : SupD l.prog K mg CO cccp cdacp := ⟨⟨_, _, _, _, _, _, lkcp, vkcp, fkcp⟩, ⟨_, _, _, lcccp⟩, ⟨_, clcp⟩, PySem.W.mg_none_of X G z_super, top, opq⟩
  have d_Pointed_point : MetAt K CO "point" "Pointed.point" s_Pointed_point ["self", "canvas"] := metAt_mk a42 i42 l42 c42 k42 (fun _ _ _ _ _ _ us hl => match us, hl with | [_, _], _ => rfl)
  have d_Copy_on : MetAt K CO "on" "Copy.on" s_Copy_on ["self", "canvas"] := metAt_mk a43 i43 l43 c43 k43 (fun _ _ _ _ _ _ us hl => match us, hl with | [_, _], _ => rfl)
  have FU43 := fun_mk (st := s_Copy_on) l43 c43 k43
  have F0 := fun_mk (st := s_law) l0 c0 k0
  have B0 : Binds K _ ["_law_script"] [] := F0.binds (fun _ _ _ _ _ _ us hl => match us, hl with | [_], _ => rfl)
  exact fun base _ _ => by
    have Er_BadPlace : Err l.prog w K mg base "BadPlace" CB ["part"] := ⟨O_BadPlace, PySem.W.mg_of X G gBadPlace, fBadPlace, _, _, iBadPlace, tIBadPlace, ok_BadPlace_init (P := l.prog) (w := w) (K := K) (mg := mg) (base := base) lIBadPlace cIBadPlace O_BadPlace U_BadPlace no0BadPlace, fun s us _ hl => .of_eq (match us, hl with | [_, _], _ => rfl)⟩
    have Er_BadSize : Err l.prog w K mg base "BadSize" CS ["part"] := ⟨O_BadSize, PySem.W.mg_of X G gBadSize, fBadSize, _, _, iBadSize, tIBadSize, ok_BadSize_init (P := l.prog) (w := w) (K := K) (mg := mg) (base := base) lIBadSize cIBadSize O_BadSize U_BadSize no0BadSize, fun s us _ hl => .of_eq (match us, hl with | [_, _], _ => rfl)⟩
    have Er_BadColour : Err l.prog w K mg base "BadColour" CK ["value"] := ⟨O_BadColour, PySem.W.mg_of X G gBadColour, fBadColour, _, _, iBadColour, tIBadColour, ok_BadColour_init (P := l.prog) (w := w) (K := K) (mg := mg) (base := base) lIBadColour cIBadColour O_BadColour U_BadColour no0BadColour, fun s us _ hl => .of_eq (match us, hl with | [_, _], _ => rfl)⟩
    have Er_BadPixel : Err l.prog w K mg base "BadPixel" CE ["x", "y"] := ⟨O_BadPixel, PySem.W.mg_of X G gBadPixel, fBadPixel, _, _, iBadPixel, tIBadPixel, ok_BadPixel_init (P := l.prog) (w := w) (K := K) (mg := mg) (base := base) lIBadPixel cIBadPixel O_BadPixel U_BadPixel no0BadPixel no1BadPixel, fun s us _ hl => .of_eq (match us, hl with | [_, _, _], _ => rfl)⟩
    have c_is_whole := ok_is_whole (P := l.prog) (w := w) (K := K) (mg := mg) (base := base) T d_is_whole
    have c_value_at := ok_value_at (P := l.prog) (w := w) (K := K) (mg := mg) (base := base) T d_value_at
    have okPI := ok_Place_initX (P := l.prog) (w := w) (K := K) (mg := mg) (base := base) (ps := ["self", "slope", "offset", "odd"]) T C0 c_is_whole Er_BadPlace F1 rfl
    have MkP : Mk K C f1 := ⟨mk, a1, i1, kc⟩
    have M_Place : Mak l.prog w K mg base 3 "Place" C (spPlX K C CB) := ⟨_, FnOk.all okPI b1, C0.g, MkP⟩
    have m_pcall : Met l.prog w K mg base 3 C "__call__" (spPlAtX K C CS) := ⟨_, FnOk.all (ok_Place_callX (P := l.prog) (w := w) (K := K) (mg := mg) (base := base) T C0 c_is_whole c_value_at Er_BadSize FU2) (FU2.binds (fun _ _ _ _ _ _ us hl => match us, hl with | [_, _], _ => rfl)), ⟨a2, i2, k2⟩⟩
    have c_as := ok_as_place (P := l.prog) (w := w) (K := K) (mg := mg) (base := base) T C0 c_is_whole M_Place ⟨_, PySem.W.mg_of X G gMP⟩ d_as_place
    have c_np := ok_need_place (P := l.prog) (w := w) (K := K) (mg := mg) (base := base) T c_as Er_BadPlace d_need_place
    have c_nl := ok_need_length (P := l.prog) (w := w) (K := K) (mg := mg) (base := base) T c_is_whole Er_BadSize d_need_length
    have okB := ok_Box_init (P := l.prog) (w := w) (K := K) (mg := mg) (base := base) T C0 BX0 nC c_np FU3
    have MkB : Mk K CX f3 := ⟨xmk, a3, i3, xkc⟩
    have M_Box : Mak l.prog w K mg base 7 "Box" CX (spBoxI K C CX CB) := ⟨_, FnOk.all okB (FU3.binds (fun _ _ _ _ _ _ us hl => match us, hl with | [_, _, _, _, _], _ => rfl)), BX0.g, MkB⟩
    have m_bcall : Met l.prog w K mg base 5 CX "__call__" (spBoxAt K C CX CS) := ⟨_, FnOk.all (ok_Box_call (P := l.prog) (w := w) (K := K) (mg := mg) (base := base) T C0 BX0 c_nl m_pcall (fun g o => by have e := a2.symm.trans o.at_; cases e; exact fiP) FU4) (FU4.binds (fun _ _ _ _ _ _ us hl => match us, hl with | [_, _, _], _ => rfl)), ⟨a4, i4, k4⟩⟩
    have fib : ∀ g, Opr K CX "__call__" g → PySem.W.fnIn K g = true := fun g o => by
      have e := a4.symm.trans o.at_
      cases e
      exact fiB
    have fip : ∀ g, Opr K C "__call__" g → PySem.W.fnIn K g = true := fun g o => by
      have e := a2.symm.trans o.at_
      cases e
      exact fiP
    have c_is_colourA := ok_is_colour (P := l.prog) (w := w) (K := K) (mg := mg) (base := base) T c_is_whole d_is_colour
    have c_need_sizes := ok_need_sizes (P := l.prog) (w := w) (K := K) (mg := mg) (base := base) T Y0 c_is_whole d_need_sizes
    have c_is_line := ok_is_line (P := l.prog) (w := w) (K := K) (mg := mg) (base := base) T Y0 d_is_line
    have c_wrong_line := ok_wrong_line (P := l.prog) (w := w) (K := K) (mg := mg) (base := base) T c_is_line d_wrong_line
    have okYI := ok_Picture_init (P := l.prog) (w := w) (K := K) (mg := mg) (base := base) T Y0 c_wrong_line FY
    have MkY : Mk K CP f35 := ⟨ymk, a35, i35, ykc⟩
    have M_Picture : Mak l.prog w K mg base 3 "Picture" CP (spPicA CP) := ⟨_, FnOk.all okYI (FY.binds (fun _ _ _ _ _ _ us hl => match us, hl with | [_, _], _ => rfl)), Y0.g, MkY⟩
    have c_need_colour := ok_need_colour (P := l.prog) (w := w) (K := K) (mg := mg) (base := base) T c_is_colourA Er_BadColour d_need_colour
    have c_inside := ok_is_inside (P := l.prog) (w := w) (K := K) (mg := mg) (base := base) T d_is_inside
    have c_need_pixel := ok_need_pixel (P := l.prog) (w := w) (K := K) (mg := mg) (base := base) T c_is_whole c_inside Er_BadPixel d_need_pixel
    have c_npx : Cal l.prog w K mg base 3 "need_pixel" (spNPix K) := c_need_pixel.imp fun vs H Q E z => by
      obtain ⟨l, R, w0, h0, x, y, rfl, HL, G, F, hi, k⟩ := z
      exact ⟨l, R, w0, h0, _, _, rfl, HL, G, F, .inr ⟨x, y, rfl, rfl, hi, k⟩⟩
    have mg_get := ok_Picture_getitem (P := l.prog) (w := w) (K := K) (mg := mg) (base := base) T Y0 c_npx d_Picture_getitem
    have m_get : MetF l.prog w K mg base 4 CP "__getitem__" (spGet CP) := by
      obtain ⟨f, F, hm⟩ := mg_get
      have e := a36.symm.trans hm.at_
      cases e
      exact ⟨_, ⟨a36, i36⟩, fiG, F⟩
    have okVI := ok_Canvas_init (P := l.prog) (w := w) (K := K) (mg := mg) (base := base) T V0 c_need_sizes FV_init
    have MkV : Mk K CV f37 := ⟨mkV, a37, i37, kcV⟩
    have M_Canvas : Mak l.prog w K mg base 3 "Canvas" CV (spCvI CV) := ⟨_, FnOk.all okVI (FV_init.binds (fun _ _ _ _ _ _ us hl => match us, hl with | [_, _, _], _ => rfl)), V0.g, MkV⟩
    have okPc := ok_Canvas_picture (P := l.prog) (w := w) (K := K) (mg := mg) (base := base) T V0 M_Picture FV_picture
    have m_picture : Met l.prog w K mg base 5 CV "picture" (spShown CV CP) := ⟨_, FnOk.all okPc (FV_picture.binds (fun _ _ _ _ _ _ us hl => match us, hl with | [_], _ => rfl)), ⟨a38, i38, k38⟩⟩
    have okSet := ok_Canvas_setitem (P := l.prog) (w := w) (K := K) (mg := mg) (base := base) T V0 c_need_pixel c_need_colour FV_setitem
    have m_set : Met l.prog w K mg base 5 CV "__setitem__" (spCvSet K CV CE CK) := ⟨_, FnOk.all okSet (FV_setitem.binds (fun _ _ _ _ _ _ us hl => match us, hl with | [_, _, _], _ => rfl)), ⟨a39, i39, k39⟩⟩
    have c_is_pixel := ok_is_pixel (P := l.prog) (w := w) (K := K) (mg := mg) (base := base) T d_is_pixel
    have c_pixels : CalGen l.prog w K mg base 6 "pixels_in" ["box", "width", "height"] (spPixG C CX) := ⟨_, _, PySem.W.mg_of X G a40, k40, FG.binds (fun _ _ _ _ _ _ us hl => match us, hl with | [_, _, _], _ => rfl), ok_pixels_in (CS := CS) (P := l.prog) (w := w) (K := K) (mg := mg) (base := base) T BX0 m_bcall fib l40 c40⟩
    have okD := ok_Deed_init (CI := CO) (P := l.prog) (w := w) (K := K) (mg := mg) (base := base) T D0.cl D0.n4 FU41
    have smD : SupMK l.prog w K mg base (L2.CX l.prog w) 1 CO DP "__init__" [] (spDeedI CO) := ⟨⟨_, ksCOpt, tfD, fnD, callK_nil (FnOk.all okD (FU41.binds (fun _ _ _ _ _ _ us hl => match us, hl with | [_], _ => rfl)))⟩, mrCOpt⟩
    have kP := ok_Pointed_init (CI := CO) (C := C) (CB := CB) (P := l.prog) (w := w) (K := K) (mg := mg) (base := base) T lpt cpt U_pt nCO D0.cl D0.n2 D0.n3 c_np smD
    have smP : SupMK l.prog w K mg base (L2.CX l.prog w) 7 CO DB "__init__" ["x", "y"] (kwSp 2 [] (spPtI K CO C)) := ⟨⟨_, ksCObx, tfpt, fnpt, kP⟩, mrCObx⟩
    have kB := ok_Boxed_init (CI := CO) (C := C) (P := l.prog) (w := w) (K := K) (mg := mg) (base := base) T lbx cbx U_bx BX0 nCO nXO D0.cl D0.n1 smP
    have smB : SupMK l.prog w K mg base (L2.CX l.prog w) 8 CO CO "__init__" ["box", "x", "y"] (kwSp 1 ["x", "y"] (spBoxdPI K CO C CX)) := ⟨⟨_, ksCOcp, tfbx, fnbx, kB⟩, mrCOcp⟩
    have okCI := ok_Copy_init (P := l.prog) (w := w) (K := K) (mg := mg) (base := base) T lcp ccp U_cp smB
    have M_Copy : Mak l.prog w K mg base 9 "Copy" CO (spCopyI K CO C CX) := ⟨_, FnOk.all okCI (.all (fun us hl => match us, hl with | [_, _, _, _], _ => rfl)), PySem.W.mg_of X G gCO, ⟨mkCO, acp, iscp, kcCO⟩⟩
    have m_point := ok_Pointed_point (C := C) (CI := CO) (CS := CS) (CV := CV) (P := l.prog) (w := w) (K := K) (mg := mg) (base := base) T V0 D0.cl D0.n2 D0.n3 m_pcall fip d_Pointed_point
    have m_on : Met l.prog w K mg base 10 CO "on" (spCopyOn C CX CO CV) := ⟨_, FnOk.all (ok_Copy_on (C := C) (CX := CX) (CS := CS) (CB := CK) (CE := CE) (P := l.prog) (w := w) (K := K) (mg := mg) (base := base) T V0 D0 m_bcall fib c_pixels c_is_pixel m_set nsq m_get m_picture m_point FU43) (FU43.binds (fun _ _ _ _ _ _ us hl => match us, hl with | [_, _], _ => rfl)), ⟨a43, i43, k43⟩⟩
    have c_draw := ok_l_draw (P := l.prog) (w := w) (K := K) (mg := mg) (base := base) T d_l_draw
    have c_pick := ok_l_pick (P := l.prog) (w := w) (K := K) (mg := mg) (base := base) T c_draw d_l_pick
    have c_place := ok_l_place (P := l.prog) (w := w) (K := K) (mg := mg) (base := base) T c_pick d_l_place
    have c_bpl := ok_l_built_place (CB := CB) (P := l.prog) (w := w) (K := K) (mg := mg) (base := base) T C0 M_Place c_draw d_l_built_place
    have c_bbx := ok_l_built_box (CB := CB) (P := l.prog) (w := w) (K := K) (mg := mg) (base := base) T C0 BX0 (kitOne_T meta_int sI) (kitOne_T meta_bool sBo) M_Box c_bpl d_l_built_box
    have c_at := ok_l_at (P := l.prog) (w := w) (K := K) (mg := mg) (base := base) T d_l_at
    have c_ends := ok_l_ends (P := l.prog) (w := w) (K := K) (mg := mg) (base := base) T c_at d_l_ends
    have c_box := ok_l_box (P := l.prog) (w := w) (K := K) (mg := mg) (base := base) T c_draw c_place d_l_box
    have c_built := ok_l_built (P := l.prog) (w := w) (K := K) (mg := mg) (base := base) T C0 (kitOne_T meta_int sI) (kitOne_T meta_bool sBo) c_bbx c_bpl M_Copy d_l_built
    have c_ispx := ok_l_is_pixel (P := l.prog) (w := w) (K := K) (mg := mg) (base := base) T d_l_is_pixel
    have c_spots := ok_l_spots (P := l.prog) (w := w) (K := K) (mg := mg) (base := base) T d_l_spots
    have c_within := ok_l_within (P := l.prog) (w := w) (K := K) (mg := mg) (base := base) T c_ends c_spots d_l_within
    have c_copied := ok_l_copied (P := l.prog) (w := w) (K := K) (mg := mg) (base := base) T c_ends c_at c_within c_ispx d_l_copied
    have c_noise := ok_l_noise (CB := CK) (CE := CE) (P := l.prog) (w := w) (K := K) (mg := mg) (base := base) T V0 c_draw c_spots m_set nsq d_l_noise
    have c_near := ok_l_near (P := l.prog) (w := w) (K := K) (mg := mg) (base := base) T c_draw c_place d_l_near
    exact ok_law (P := l.prog) (w := w) (K := K) (mg := mg) (base := base) T V0 Y0 D0 c_draw (ok_l_pen (P := l.prog) (w := w) (K := K) (mg := mg) (base := base) T d_l_pen) c_box c_noise c_near c_built c_copied (ok_l_lines (P := l.prog) (w := w) (K := K) (mg := mg) (base := base) T d_l_lines) M_Canvas m_picture m_on F0 B0
end Kx
open PySem PySem.W PyProof.Rows
set_option maxRecDepth 100000 in
set_option maxHeartbeats 0 in
theorem PySem.Challenge.cw_heldfloods_k38_copies_by_pixels_holds : PySem.Challenge.rw_heldfloods_k38_copies_by_pixels.Holds := by
  refine Kx.head_top ?_
  k_fill
  refine Hf.walkG (l := PySem.Challenge.rw_heldfloods_k38_copies_by_pixels) (k := 12) (by decide) rfl rfl (fun w h Y => PySem.W.kIn_of Y) ?F
  case F =>
    intro w mg fa h KX G hmg
    refine' Kx.all_mk KX G hmg ?z_ValueError ?z_abs ?z_all ?z_bool ?z_enumerate ?z_int ?z_isinstance ?z_len ?z_list ?z_max ?z_min ?z_range ?z_repr ?z_str ?z_super ?z_tuple ?z_zip ?gC ?pg ?hd ?po ?sa ?n1 ?n2 ?n3 ?sf ?cC ?iC ?tC ?ne1 ?ne2 ?ha ?hn ?tk ?mo ?sI ?rA ?rS ?oA ?pA ?oS ?pS ?sIC ?hi ?mk ?kc ?pm ?gH ?top ?opq ?h1 ?h2 ?h3 ?gBadPlace ?lBadPlace ?rBadPlace ?saBadPlace ?exBadPlace ?tyBadPlace ?kBadPlace ?iBadPlace ?tIBadPlace ?lIBadPlace ?cIBadPlace ?lkBadPlace ?vkBadPlace ?fkBadPlace ?lccBadPlace ?clBadPlace ?mrBadPlace ?iniBadPlace ?isVBadPlace ?no0BadPlace ?gaBadPlace ?ggBadPlace ?hdBadPlace ?haBadPlace ?moBadPlace ?heBadPlace ?gBadSize ?lBadSize ?rBadSize ?saBadSize ?exBadSize ?tyBadSize ?kBadSize ?iBadSize ?tIBadSize ?lIBadSize ?cIBadSize ?lkBadSize ?vkBadSize ?fkBadSize ?lccBadSize ?clBadSize ?mrBadSize ?iniBadSize ?isVBadSize ?no0BadSize ?gaBadSize ?ggBadSize ?hdBadSize ?haBadSize ?moBadSize ?heBadSize ?gBadColour ?lBadColour ?rBadColour ?saBadColour ?exBadColour ?tyBadColour ?kBadColour ?iBadColour ?tIBadColour ?lIBadColour ?cIBadColour ?lkBadColour ?vkBadColour ?fkBadColour ?lccBadColour ?clBadColour ?mrBadColour ?iniBadColour ?isVBadColour ?no0BadColour ?gaBadColour ?ggBadColour ?hdBadColour ?haBadColour ?moBadColour ?heBadColour ?gBadPixel ?lBadPixel ?rBadPixel ?saBadPixel ?exBadPixel ?tyBadPixel ?kBadPixel ?iBadPixel ?tIBadPixel ?lIBadPixel ?cIBadPixel ?lkBadPixel ?vkBadPixel ?fkBadPixel ?lccBadPixel ?clBadPixel ?mrBadPixel ?iniBadPixel ?isVBadPixel ?no0BadPixel ?no1BadPixel ?gaBadPixel ?ggBadPixel ?hdBadPixel ?haBadPixel ?moBadPixel ?heBadPixel ?gCX ?xpg ?xhd ?xpo ?xsa ?xn1 ?xn2 ?xn3 ?xn4 ?xha ?xmo ?xmk ?xkc ?nC ?sBo ?gMP ?a1 ?i1 ?l1 ?t1 ?c1 ?k1 ?a2 ?i2 ?l2 ?c2 ?k2 ?a3 ?i3 ?l3 ?c3 ?k3 ?a4 ?i4 ?l4 ?c4 ?k4 ?fiP ?fiB ?gCP ?gMS ?gDG ?ypg ?yhd ?ypo ?ysa ?yn1 ?yn2 ?yn3 ?yha ?ymo ?ymk ?ykc ?a5 ?l5 ?c5 ?k5 ?a6 ?l6 ?c6 ?k6 ?a7 ?l7 ?c7 ?k7 ?a8 ?l8 ?c8 ?k8 ?a9 ?l9 ?c9 ?k9 ?a10 ?l10 ?c10 ?k10 ?a11 ?l11 ?c11 ?k11 ?a12 ?l12 ?c12 ?k12 ?a13 ?l13 ?c13 ?k13 ?a14 ?l14 ?c14 ?k14 ?a15 ?l15 ?c15 ?k15 ?a16 ?l16 ?c16 ?k16 ?a17 ?l17 ?c17 ?k17 ?a18 ?l18 ?c18 ?k18 ?a19 ?l19 ?c19 ?k19 ?a20 ?l20 ?c20 ?k20 ?a21 ?l21 ?c21 ?k21 ?a22 ?l22 ?c22 ?k22 ?a23 ?l23 ?c23 ?k23 ?a24 ?l24 ?c24 ?k24 ?a25 ?l25 ?c25 ?k25 ?a26 ?l26 ?c26 ?k26 ?a27 ?l27 ?c27 ?k27 ?a28 ?l28 ?c28 ?k28 ?a29 ?l29 ?c29 ?k29 ?a30 ?l30 ?c30 ?k30 ?a31 ?l31 ?c31 ?k31 ?a32 ?l32 ?c32 ?k32 ?a33 ?l33 ?c33 ?k33 ?a34 ?l34 ?c34 ?k34 ?a35 ?i35 ?l35 ?c35 ?k35 ?a36 ?i36 ?l36 ?c36 ?k36 ?fiG ?gCV ?pgV ?hdV ?poV ?saV ?n1V ?n2V ?n3V ?mkV ?kcV ?a37 ?i37 ?l37 ?c37 ?k37 ?a38 ?i38 ?l38 ?c38 ?k38 ?a39 ?i39 ?l39 ?c39 ?k39 ?nsq ?a40 ?l40 ?c40 ?k40 ?gDD ?gDP ?gDB ?gCO ?pgCO ?hdCO ?poCO ?saCO ?mkCO ?kcCO ?n0CO ?n1CO ?n2CO ?n3CO ?nCO ?nXO ?a41 ?i41 ?l41 ?c41 ?k41 ?tfD ?fnD ?apt ?lpt ?cpt ?lkpt ?vkpt ?fkpt ?lccpt ?clpt ?tfpt ?fnpt ?ispt ?abx ?lbx ?cbx ?lkbx ?vkbx ?fkbx ?lccbx ?clbx ?tfbx ?fnbx ?isbx ?acp ?lcp ?ccp ?lkcp ?vkcp ?fkcp ?lcccp ?clcp ?tfcp ?fncp ?iscp ?ksCOcp ?mrCOcp ?ksCObx ?mrCObx ?ksCOpt ?mrCOpt ?a42 ?i42 ?l42 ?c42 ?k42 ?a43 ?i43 ?l43 ?c43 ?k43 ?a0 ?l0 ?c0 ?k0
    (case z_ValueError => k_is)
    (case z_abs => k_is)
    (case z_all => k_is)
    (case z_bool => k_is)
    (case z_enumerate => k_is)
    (case z_int => k_is)
    (case z_isinstance => k_is)
    (case z_len => k_is)
    (case z_list => k_is)
    (case z_max => k_is)
    (case z_min => k_is)
    (case z_range => k_is)
    (case z_repr => k_is)
    (case z_str => k_is)
    (case z_super => k_is)
    (case z_tuple => k_is)
    (case z_zip => k_is)
    (case gC => k_is)
    (case pg => k_is)
    (case hd => k_is)
    (case po => k_is)
    (case sa => k_is)
    (case n1 => k_is)
    (case n2 => k_is)
    (case n3 => k_is)
    (case sf => k_is)
    (case cC => k_is)
    (case iC => k_is)
    (case tC => k_is)
    (case ne1 => k_is)
    (case ne2 => k_is)
    (case ha => k_is)
    (case hn => k_is)
    (case tk => k_is)
    (case mo => k_is)
    (case sI => k_is)
    (case rA => k_is)
    (case rS => k_is)
    (case oA => k_is)
    (case pA => k_is)
    (case oS => k_is)
    (case pS => k_is)
    (case sIC => k_is)
    (case hi => k_is)
    (case mk => k_is)
    (case kc => k_is)
    (case pm => rfl)
    (case gH => k_is)
    (case top => rfl)
    (case opq => k_is)
    (case h1 => k_is)
    (case h2 => k_is)
    (case h3 => k_is)
    (case gBadPlace => k_is)
    (case lBadPlace => k_is)
    (case rBadPlace => rfl)
    (case saBadPlace => k_is)
    (case exBadPlace => k_is)
    (case tyBadPlace => k_is)
    (case kBadPlace => k_is)
    (case iBadPlace => k_is)
    (case tIBadPlace => k_is)
    (case lIBadPlace => k_is)
    (case cIBadPlace => k_is)
    (case lkBadPlace => k_is)
    (case vkBadPlace => rfl)
    (case fkBadPlace => rfl)
    (case lccBadPlace => k_is)
    (case clBadPlace => k_is)
    (case mrBadPlace => k_is)
    (case iniBadPlace => first | rfl | kernel_rfl)
    (case isVBadPlace => k_is)
    (case no0BadPlace => k_is)
    (case gaBadPlace => k_is)
    (case ggBadPlace => k_is)
    (case hdBadPlace => k_is)
    (case haBadPlace => k_is)
    (case moBadPlace => k_is)
    (case heBadPlace => k_is)
    (case gBadSize => k_is)
    (case lBadSize => k_is)
    (case rBadSize => rfl)
    (case saBadSize => k_is)
    (case exBadSize => k_is)
    (case tyBadSize => k_is)
    (case kBadSize => k_is)
    (case iBadSize => k_is)
    (case tIBadSize => k_is)
    (case lIBadSize => k_is)
    (case cIBadSize => k_is)
    (case lkBadSize => k_is)
    (case vkBadSize => rfl)
    (case fkBadSize => rfl)
    (case lccBadSize => k_is)
    (case clBadSize => k_is)
    (case mrBadSize => k_is)
    (case iniBadSize => first | rfl | kernel_rfl)
    (case isVBadSize => k_is)
    (case no0BadSize => k_is)
    (case gaBadSize => k_is)
    (case ggBadSize => k_is)
    (case hdBadSize => k_is)
    (case haBadSize => k_is)
    (case moBadSize => k_is)
    (case heBadSize => k_is)
    (case gBadColour => k_is)
    (case lBadColour => k_is)
    (case rBadColour => rfl)
    (case saBadColour => k_is)
    (case exBadColour => k_is)
    (case tyBadColour => k_is)
    (case kBadColour => k_is)
    (case iBadColour => k_is)
    (case tIBadColour => k_is)
    (case lIBadColour => k_is)
    (case cIBadColour => k_is)
    (case lkBadColour => k_is)
    (case vkBadColour => rfl)
    (case fkBadColour => rfl)
    (case lccBadColour => k_is)
    (case clBadColour => k_is)
    (case mrBadColour => k_is)
    (case iniBadColour => first | rfl | kernel_rfl)
    (case isVBadColour => k_is)
    (case no0BadColour => k_is)
    (case gaBadColour => k_is)
    (case ggBadColour => k_is)
    (case hdBadColour => k_is)
    (case haBadColour => k_is)
    (case moBadColour => k_is)
    (case heBadColour => k_is)
    (case gBadPixel => k_is)
    (case lBadPixel => k_is)
    (case rBadPixel => rfl)
    (case saBadPixel => k_is)
    (case exBadPixel => k_is)
    (case tyBadPixel => k_is)
    (case kBadPixel => k_is)
    (case iBadPixel => k_is)
    (case tIBadPixel => k_is)
    (case lIBadPixel => k_is)
    (case cIBadPixel => k_is)
    (case lkBadPixel => k_is)
    (case vkBadPixel => rfl)
    (case fkBadPixel => rfl)
    (case lccBadPixel => k_is)
    (case clBadPixel => k_is)
    (case mrBadPixel => k_is)
    (case iniBadPixel => first | rfl | kernel_rfl)
    (case isVBadPixel => k_is)
    (case no0BadPixel => k_is)
    (case no1BadPixel => k_is)
    (case gaBadPixel => k_is)
    (case ggBadPixel => k_is)
    (case hdBadPixel => k_is)
    (case haBadPixel => k_is)
    (case moBadPixel => k_is)
    (case heBadPixel => k_is)
    (case gCX => k_is)
    (case xpg => k_is)
    (case xhd => k_is)
    (case xpo => k_is)
    (case xsa => k_is)
    (case xn1 => k_is)
    (case xn2 => k_is)
    (case xn3 => k_is)
    (case xn4 => k_is)
    (case xha => k_is)
    (case xmo => k_is)
    (case xmk => k_is)
    (case xkc => k_is)
    (case nC => decide)
    (case sBo => k_is)
    (case gMP => k_is)
    (case a1 => k_is)
    (case i1 => k_is)
    (case l1 => k_is)
    (case t1 => k_is)
    (case c1 => k_is)
    (case k1 => k_is)
    (case a2 => k_is)
    (case i2 => k_is)
    (case l2 => k_is)
    (case c2 => k_is)
    (case k2 => k_is)
    (case a3 => k_is)
    (case i3 => k_is)
    (case l3 => k_is)
    (case c3 => k_is)
    (case k3 => k_is)
    (case a4 => k_is)
    (case i4 => k_is)
    (case l4 => k_is)
    (case c4 => k_is)
    (case k4 => k_is)
    (case fiP => k_is)
    (case fiB => k_is)
    (case gCP => k_is)
    (case gMS => k_is)
    (case gDG => k_is)
    (case ypg => k_is)
    (case yhd => k_is)
    (case ypo => k_is)
    (case ysa => k_is)
    (case yn1 => k_is)
    (case yn2 => k_is)
    (case yn3 => k_is)
    (case yha => k_is)
    (case ymo => k_is)
    (case ymk => k_is)
    (case ykc => k_is)
    (case a5 => k_is)
    (case l5 => k_is)
    (case c5 => k_is)
    (case k5 => k_is)
    (case a6 => k_is)
    (case l6 => k_is)
    (case c6 => k_is)
    (case k6 => k_is)
    (case a7 => k_is)
    (case l7 => k_is)
    (case c7 => k_is)
    (case k7 => k_is)
    (case a8 => k_is)
    (case l8 => k_is)
    (case c8 => k_is)
    (case k8 => k_is)
    (case a9 => k_is)
    (case l9 => k_is)
    (case c9 => k_is)
    (case k9 => k_is)
    (case a10 => k_is)
    (case l10 => k_is)
    (case c10 => k_is)
    (case k10 => k_is)
    (case a11 => k_is)
    (case l11 => k_is)
    (case c11 => k_is)
    (case k11 => k_is)
    (case a12 => k_is)
    (case l12 => k_is)
    (case c12 => k_is)
    (case k12 => k_is)
    (case a13 => k_is)
    (case l13 => k_is)
    (case c13 => k_is)
    (case k13 => k_is)
    (case a14 => k_is)
    (case l14 => k_is)
    (case c14 => k_is)
    (case k14 => k_is)
    (case a15 => k_is)
    (case l15 => k_is)
    (case c15 => k_is)
    (case k15 => k_is)
    (case a16 => k_is)
    (case l16 => k_is)
    (case c16 => k_is)
    (case k16 => k_is)
    (case a17 => k_is)
    (case l17 => k_is)
    (case c17 => k_is)
    (case k17 => k_is)
    (case a18 => k_is)
    (case l18 => k_is)
    (case c18 => k_is)
    (case k18 => k_is)
    (case a19 => k_is)
    (case l19 => k_is)
    (case c19 => k_is)
    (case k19 => k_is)
    (case a20 => k_is)
    (case l20 => k_is)
    (case c20 => k_is)
    (case k20 => k_is)
    (case a21 => k_is)
    (case l21 => k_is)
    (case c21 => k_is)
    (case k21 => k_is)
    (case a22 => k_is)
    (case l22 => k_is)
    (case c22 => k_is)
    (case k22 => k_is)
    (case a23 => k_is)
    (case l23 => k_is)
    (case c23 => k_is)
    (case k23 => k_is)
    (case a24 => k_is)
    (case l24 => k_is)
    (case c24 => k_is)
    (case k24 => k_is)
    (case a25 => k_is)
    (case l25 => k_is)
    (case c25 => k_is)
    (case k25 => k_is)
    (case a26 => k_is)
    (case l26 => k_is)
    (case c26 => k_is)
    (case k26 => k_is)
    (case a27 => k_is)
    (case l27 => k_is)
    (case c27 => k_is)
    (case k27 => k_is)
    (case a28 => k_is)
    (case l28 => k_is)
    (case c28 => k_is)
    (case k28 => k_is)
    (case a29 => k_is)
    (case l29 => k_is)
    (case c29 => k_is)
    (case k29 => k_is)
    (case a30 => k_is)
    (case l30 => k_is)
    (case c30 => k_is)
    (case k30 => k_is)
    (case a31 => k_is)
    (case l31 => k_is)
    (case c31 => k_is)
    (case k31 => k_is)
    (case a32 => k_is)
    (case l32 => k_is)
    (case c32 => k_is)
    (case k32 => k_is)
    (case a33 => k_is)
    (case l33 => k_is)
    (case c33 => k_is)
    (case k33 => k_is)
    (case a34 => k_is)
    (case l34 => k_is)
    (case c34 => k_is)
    (case k34 => k_is)
    (case a35 => k_is)
    (case i35 => k_is)
    (case l35 => k_is)
    (case c35 => k_is)
    (case k35 => k_is)
    (case a36 => k_is)
    (case i36 => k_is)
    (case l36 => k_is)
    (case c36 => k_is)
    (case k36 => k_is)
    (case fiG => k_is)
    (case gCV => k_is)
    (case pgV => k_is)
    (case hdV => k_is)
    (case poV => k_is)
    (case saV => k_is)
    (case n1V => k_is)
    (case n2V => k_is)
    (case n3V => k_is)
    (case mkV => k_is)
    (case kcV => k_is)
    (case a37 => k_is)
    (case i37 => k_is)
    (case l37 => k_is)
    (case c37 => k_is)
    (case k37 => k_is)
    (case a38 => k_is)
    (case i38 => k_is)
    (case l38 => k_is)
    (case c38 => k_is)
    (case k38 => k_is)
    (case a39 => k_is)
    (case i39 => k_is)
    (case l39 => k_is)
    (case c39 => k_is)
    (case k39 => k_is)
    (case nsq => k_is)
    (case a40 => k_is)
    (case l40 => k_is)
    (case c40 => k_is)
    (case k40 => k_is)
    (case gDD => k_is)
    (case gDP => k_is)
    (case gDB => k_is)
    (case gCO => k_is)
    (case pgCO => k_is)
    (case hdCO => k_is)
    (case poCO => k_is)
    (case saCO => k_is)
    (case mkCO => k_is)
    (case kcCO => k_is)
    (case n0CO => k_is)
    (case n1CO => k_is)
    (case n2CO => k_is)
    (case n3CO => k_is)
    (case nCO => decide)
    (case nXO => decide)
    (case a41 => k_is)
    (case i41 => k_is)
    (case l41 => k_is)
    (case c41 => k_is)
    (case k41 => k_is)
    (case tfD => k_is)
    (case fnD => k_is)
    (case apt => k_is)
    (case lpt => k_is)
    (case cpt => k_is)
    (case lkpt => k_is)
    (case vkpt => rfl)
    (case fkpt => rfl)
    (case lccpt => k_is)
    (case clpt => k_is)
    (case tfpt => k_is)
    (case fnpt => k_is)
    (case ispt => k_is)
    (case abx => k_is)
    (case lbx => k_is)
    (case cbx => k_is)
    (case lkbx => k_is)
    (case vkbx => rfl)
    (case fkbx => rfl)
    (case lccbx => k_is)
    (case clbx => k_is)
    (case tfbx => k_is)
    (case fnbx => k_is)
    (case isbx => k_is)
    (case acp => k_is)
    (case lcp => k_is)
    (case ccp => k_is)
    (case lkcp => k_is)
    (case vkcp => rfl)
    (case fkcp => rfl)
    (case lcccp => k_is)
    (case clcp => k_is)
    (case tfcp => k_is)
    (case fncp => k_is)
    (case iscp => k_is)
    (case ksCOcp => first | rfl | kernel_rfl)
    (case mrCOcp => k_is)
    (case ksCObx => first | rfl | kernel_rfl)
    (case mrCObx => k_is)
    (case ksCOpt => first | rfl | kernel_rfl)
    (case mrCOpt => k_is)
    (case a42 => k_is)
    (case i42 => k_is)
    (case l42 => k_is)
    (case c42 => k_is)
    (case k42 => k_is)
    (case a43 => k_is)
    (case i43 => k_is)
    (case l43 => k_is)
    (case c43 => k_is)
    (case k43 => k_is)
    (case a0 => k_is)
    (case l0 => k_is)
    (case c0 => k_is)
    (case k0 => k_is)
