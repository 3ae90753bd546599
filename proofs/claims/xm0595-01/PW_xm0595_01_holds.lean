import PyProof.Rows.All
import Wide.All
import OpenK.AllK
import Wide.FinOn
import PySem.Challenge.RW_xm0595_01
open PySem PySem.W PyProof.Rows
set_option Elab.async false
set_option compiler.extract_closed false
namespace Mine
noncomputable def qv : Program := view PySem.Challenge.pw_xm0595_01 [0, 2, 3, 5, 6, 7, 8, 9, 10, 12, 13, 14, 15, 16, 17, 18, 19, 20, 22, 23, 25, 26, 27, 28, 29, 30, 31, 32, 33, 34, 35, 36]
noncomputable def qloose : List Str := [Str.ofString "LendError", Str.ofString "Adt"]
noncomputable def topRunT (tb : String → Option Builtin) (p : Program) (w : World) (n₀ : Nat) (ann : Option Value) : Nat → SharedT → Thread → Option SharedT
  | 0, _, _ => none
  | n + 1, s, t => match through t with
    | true => some s
    | false => match PySem.W.Fast.tw6613529449190102663 n₀ ann t with
      | false => none
      | true => match PySem.W.Fast.tw10156331382660048174 (PySem.W.Fast.tw11892475500146522536 tb) p w s t with
        | some (s', t') => topRunT tb p w n₀ ann n s' t'
        | none => none
theorem topRun_of {tb : String → Option Builtin} {p : Program} {w : World} {n₀ : Nat} {ann : Option Value} : ∀ {n : Nat} {s s' : SharedT} {t : Thread}, topRunT tb p w n₀ ann n s t = some s' → topRun tb p w n₀ ann n s.abs t = some s'.abs
  | 0, _, _, _, h => by cases h
  | n + 1, s, s', t, h => by
    unfold topRunT at h
    unfold topRun
    rw [← PySem.W.Fast.te6613529449190102663, ← PySem.W.Fast.te10156331382660048174, ← PySem.W.Fast.te11892475500146522536] at h
    cases he : through t with
    | true => rw [he] at h; cases h; rfl
    | false =>
      rw [he] at h
      cases hk : stepOk n₀ ann t with
      | false => rw [hk] at h; cases h
      | true =>
        rw [hk] at h
        cases hs : stepT (denote tb) p w s t with
        | none => rw [hs] at h; cases h
        | some r => obtain ⟨s₂, t₂⟩ := r; rw [hs] at h; rw [stepT_spec hs]; exact topRun_of h
noncomputable def bt (l : List Obj) : BT := (l.foldl (fun (p : BT × Nat) o => (p.1.ins p.2 o, p.2 + 1)) (.nil, 0)).1
noncomputable def s0T (P : Params) (n : Nat) (os : OsState) : SharedT := ⟨bt (boot_heap P).objs.toList, n, (boot_heap P).life, Array.mk [], boot_drawn, boot_toks, os⟩
theorem left_of {p q : Program} {loose : List Str} {Xt : Shared → Bool} {α : Type} {Yf : Shared → α} {Ya : World → α} {N : Nat} {m₀ : Nat} {ann : Option Value}
    (open_ : ∀ w : World, (fencedOpening treeTable p w N).map (fun s => (s.heap, s.gens, s.drawn, s.toks)) = some (boot_heap w.params, Array.mk [], boot_drawn, boot_toks))
    (size : ∀ w : World, ((boot_heap w.params).isNs mainGlobals, (boot_heap w.params).objs.size, (boot_heap w.params).nsMap mainGlobals "__annotations__") = (true, m₀, ann))
    (abs : ∀ P : Params, absHeap (bt (boot_heap P).objs.toList) m₀ (boot_heap P).life = boot_heap P)
    (run : ∀ w : World, (fun os => (topRunT treeTable p w m₀ ann N (s0T w.params m₀ os) (topStub p)).map fun s => ((staticsOk (importedModules p.main.body) (boot_heap w.params) s.abs.heap && namesBound p s.abs.heap && gensDone s.abs && laidKept (boot_heap w.params) s.abs.heap),
        openSeen q loose (importedModules p.main.body) Xt true s.abs, Yf s.abs)) = fun _ => some (true, openGood q loose, Ya w)) : LeftO p q loose Xt Yf Ya N true := fun w => by
  obtain ⟨⟨h, gs, d, k, os⟩, e, e'⟩ := Option.map_eq_some_iff.mp (open_ w)
  obtain ⟨rfl, rfl, rfl, rfl⟩ : h = boot_heap w.params ∧ gs = Array.mk [] ∧ d = boot_drawn ∧ k = boot_toks := by simpa using e'
  obtain ⟨z1, z2, z3⟩ : _ ∧ _ ∧ _ := by simpa only [Prod.mk.injEq] using size w
  obtain ⟨s, hs, l⟩ := Option.map_eq_some_iff.mp (congrFun (run w) os)
  obtain ⟨l1, l2, l3⟩ : _ ∧ _ ∧ _ := by simpa only [Prod.mk.injEq] using l
  have r := topRun_of hs
  have a : (s0T w.params m₀ os).abs = ⟨boot_heap w.params, Array.mk [], boot_drawn, boot_toks, os⟩ := by
    show Shared.mk (absHeap (bt (boot_heap w.params).objs.toList) m₀ (boot_heap w.params).life) _ _ _ _ = _
    rw [abs]
    rfl
  rw [a] at r
  have t : topFrom treeTable p w N ⟨boot_heap w.params, Array.mk [], boot_drawn, boot_toks, os⟩ = some s.abs := by
    unfold topFrom
    dsimp only
    rw [z1, z2, z3, r]
    show (match staticsOk (importedModules p.main.body) (boot_heap w.params) s.abs.heap && namesBound p s.abs.heap && gensDone s.abs && laidKept (boot_heap w.params) s.abs.heap with | true => _ | false => _) = _
    rw [l1]
  unfold openEnds
  rw [e]
  show (topFrom treeTable p w N _).map _ = _
  rw [t]
  exact congrArg some (Prod.ext l2 l3)
theorem absB : ∀ P : Params, absHeap (bt (boot_heap P).objs.toList) (boot_heap P).objs.size (boot_heap P).life = boot_heap P := by
  intro P
  kernel_rfl
noncomputable abbrev bnE (P : Params) (n : String) (t : Tok) (v : Value) : DictEntry := ⟨PyData.keyHash P (Str.ofString n), .str (Str.ofString n) t, v⟩
noncomputable def bnEs (P : Params) : Array DictEntry := #[
  bnE P "__name__" 1 (.str (Str.ofString "builtins") 160),
  bnE P "__doc__" 2 (.builtin "builtins.__doc__:str#opaque"),
  bnE P "__package__" 3 (.builtin "builtins.__package__:str#opaque"),
  bnE P "__loader__" 4 (.builtin "builtins.__loader__:shared#opaque"),
  bnE P "__spec__" 5 (.builtin "builtins.__spec__#opaque"),
  bnE P "__build_class__" 6 (.builtin "__build_class__"),
  bnE P "__import__" 7 (.builtin "__import__"),
  bnE P "abs" 8 (.builtin "abs"),
  bnE P "all" 9 (.builtin "all"),
  bnE P "any" 10 (.builtin "any"),
  bnE P "ascii" 11 (.builtin "ascii"),
  bnE P "bin" 12 (.builtin "bin"),
  bnE P "breakpoint" 13 (.builtin "breakpoint"),
  bnE P "callable" 14 (.builtin "callable"),
  bnE P "chr" 15 (.builtin "chr"),
  bnE P "compile" 16 (.builtin "compile"),
  bnE P "delattr" 17 (.builtin "delattr"),
  bnE P "dir" 18 (.builtin "dir"),
  bnE P "divmod" 19 (.builtin "divmod"),
  bnE P "eval" 20 (.builtin "eval"),
  bnE P "exec" 21 (.builtin "exec"),
  bnE P "format" 22 (.builtin "format"),
  bnE P "getattr" 23 (.builtin "getattr"),
  bnE P "globals" 24 (.builtin "globals"),
  bnE P "hasattr" 25 (.builtin "hasattr"),
  bnE P "hash" 26 (.builtin "hash"),
  bnE P "hex" 27 (.builtin "hex"),
  bnE P "id" 28 (.builtin "id"),
  bnE P "input" 29 (.builtin "input"),
  bnE P "isinstance" 30 (.builtin "isinstance"),
  bnE P "issubclass" 31 (.builtin "issubclass"),
  bnE P "iter" 32 (.builtin "iter"),
  bnE P "aiter" 33 (.builtin "aiter"),
  bnE P "len" 34 (.builtin "len"),
  bnE P "locals" 35 (.builtin "locals"),
  bnE P "max" 36 (.builtin "max"),
  bnE P "min" 37 (.builtin "min"),
  bnE P "next" 38 (.builtin "next"),
  bnE P "anext" 39 (.builtin "anext"),
  bnE P "oct" 40 (.builtin "oct"),
  bnE P "ord" 41 (.builtin "ord"),
  bnE P "pow" 42 (.builtin "pow"),
  bnE P "print" 43 (.builtin "print"),
  bnE P "repr" 44 (.builtin "repr"),
  bnE P "round" 45 (.builtin "round"),
  bnE P "setattr" 46 (.builtin "setattr"),
  bnE P "sorted" 47 (.builtin "sorted"),
  bnE P "sum" 48 (.builtin "sum"),
  bnE P "vars" 49 (.builtin "vars"),
  bnE P "None" 50 (.none),
  bnE P "Ellipsis" 51 (.ellipsis),
  bnE P "NotImplemented" 52 (.notImplemented),
  bnE P "False" 53 (.bool false),
  bnE P "True" 54 (.bool true),
  bnE P "bool" 55 (.type "bool"),
  bnE P "memoryview" 56 (.type "memoryview"),
  bnE P "bytearray" 57 (.type "bytearray"),
  bnE P "bytes" 58 (.type "bytes"),
  bnE P "classmethod" 59 (.type "classmethod"),
  bnE P "complex" 60 (.type "complex"),
  bnE P "dict" 61 (.type "dict"),
  bnE P "enumerate" 62 (.type "enumerate"),
  bnE P "filter" 63 (.type "filter"),
  bnE P "float" 64 (.type "float"),
  bnE P "frozenset" 65 (.type "frozenset"),
  bnE P "property" 66 (.type "property"),
  bnE P "int" 67 (.type "int"),
  bnE P "list" 68 (.type "list"),
  bnE P "map" 69 (.type "map"),
  bnE P "object" 70 (.type "object"),
  bnE P "range" 71 (.type "range"),
  bnE P "reversed" 72 (.type "reversed"),
  bnE P "set" 73 (.type "set"),
  bnE P "slice" 74 (.type "slice"),
  bnE P "staticmethod" 75 (.type "staticmethod"),
  bnE P "str" 76 (.type "str"),
  bnE P "super" 77 (.type "super"),
  bnE P "tuple" 78 (.type "tuple"),
  bnE P "type" 79 (.type "type"),
  bnE P "zip" 80 (.type "zip"),
  bnE P "__debug__" 81 (.bool true),
  bnE P "BaseException" 82 (.type "BaseException"),
  bnE P "BaseExceptionGroup" 83 (.type "BaseExceptionGroup"),
  bnE P "Exception" 84 (.type "Exception"),
  bnE P "GeneratorExit" 85 (.type "GeneratorExit"),
  bnE P "KeyboardInterrupt" 86 (.type "KeyboardInterrupt"),
  bnE P "SystemExit" 87 (.type "SystemExit"),
  bnE P "ArithmeticError" 88 (.type "ArithmeticError"),
  bnE P "AssertionError" 89 (.type "AssertionError"),
  bnE P "AttributeError" 90 (.type "AttributeError"),
  bnE P "BufferError" 91 (.type "BufferError"),
  bnE P "EOFError" 92 (.type "EOFError"),
  bnE P "ImportError" 93 (.type "ImportError"),
  bnE P "LookupError" 94 (.type "LookupError"),
  bnE P "MemoryError" 95 (.type "MemoryError"),
  bnE P "NameError" 96 (.type "NameError"),
  bnE P "OSError" 97 (.type "OSError"),
  bnE P "ReferenceError" 98 (.type "ReferenceError"),
  bnE P "RuntimeError" 99 (.type "RuntimeError"),
  bnE P "StopAsyncIteration" 100 (.type "StopAsyncIteration"),
  bnE P "StopIteration" 101 (.type "StopIteration"),
  bnE P "SyntaxError" 102 (.type "SyntaxError"),
  bnE P "SystemError" 103 (.type "SystemError"),
  bnE P "TypeError" 104 (.type "TypeError"),
  bnE P "ValueError" 105 (.type "ValueError"),
  bnE P "Warning" 106 (.type "Warning"),
  bnE P "FloatingPointError" 107 (.type "FloatingPointError"),
  bnE P "OverflowError" 108 (.type "OverflowError"),
  bnE P "ZeroDivisionError" 109 (.type "ZeroDivisionError"),
  bnE P "BytesWarning" 110 (.type "BytesWarning"),
  bnE P "DeprecationWarning" 111 (.type "DeprecationWarning"),
  bnE P "EncodingWarning" 112 (.type "EncodingWarning"),
  bnE P "FutureWarning" 113 (.type "FutureWarning"),
  bnE P "ImportWarning" 114 (.type "ImportWarning"),
  bnE P "PendingDeprecationWarning" 115 (.type "PendingDeprecationWarning"),
  bnE P "ResourceWarning" 116 (.type "ResourceWarning"),
  bnE P "RuntimeWarning" 117 (.type "RuntimeWarning"),
  bnE P "SyntaxWarning" 118 (.type "SyntaxWarning"),
  bnE P "UnicodeWarning" 119 (.type "UnicodeWarning"),
  bnE P "UserWarning" 120 (.type "UserWarning"),
  bnE P "BlockingIOError" 121 (.type "BlockingIOError"),
  bnE P "ChildProcessError" 122 (.type "ChildProcessError"),
  bnE P "ConnectionError" 123 (.type "ConnectionError"),
  bnE P "FileExistsError" 124 (.type "FileExistsError"),
  bnE P "FileNotFoundError" 125 (.type "FileNotFoundError"),
  bnE P "InterruptedError" 126 (.type "InterruptedError"),
  bnE P "IsADirectoryError" 127 (.type "IsADirectoryError"),
  bnE P "NotADirectoryError" 128 (.type "NotADirectoryError"),
  bnE P "PermissionError" 129 (.type "PermissionError"),
  bnE P "ProcessLookupError" 130 (.type "ProcessLookupError"),
  bnE P "TimeoutError" 131 (.type "TimeoutError"),
  bnE P "IndentationError" 132 (.type "IndentationError"),
  bnE P "_IncompleteInputError" 133 (.type "_IncompleteInputError"),
  bnE P "IndexError" 134 (.type "IndexError"),
  bnE P "KeyError" 135 (.type "KeyError"),
  bnE P "ModuleNotFoundError" 136 (.type "ModuleNotFoundError"),
  bnE P "NotImplementedError" 137 (.type "NotImplementedError"),
  bnE P "PythonFinalizationError" 138 (.type "PythonFinalizationError"),
  bnE P "RecursionError" 139 (.type "RecursionError"),
  bnE P "UnboundLocalError" 140 (.type "UnboundLocalError"),
  bnE P "UnicodeError" 141 (.type "UnicodeError"),
  bnE P "BrokenPipeError" 142 (.type "BrokenPipeError"),
  bnE P "ConnectionAbortedError" 143 (.type "ConnectionAbortedError"),
  bnE P "ConnectionRefusedError" 144 (.type "ConnectionRefusedError"),
  bnE P "ConnectionResetError" 145 (.type "ConnectionResetError"),
  bnE P "TabError" 146 (.type "TabError"),
  bnE P "UnicodeDecodeError" 147 (.type "UnicodeDecodeError"),
  bnE P "UnicodeEncodeError" 148 (.type "UnicodeEncodeError"),
  bnE P "UnicodeTranslateError" 149 (.type "UnicodeTranslateError"),
  bnE P "ExceptionGroup" 150 (.type "ExceptionGroup"),
  bnE P "EnvironmentError" 151 (.type "OSError"),
  bnE P "IOError" 152 (.type "OSError"),
  bnE P "open" 153 (.builtin "open"),
  bnE P "quit" 154 (.builtin "builtins.quit#opaque"),
  bnE P "exit" 155 (.builtin "builtins.exit#opaque"),
  bnE P "copyright" 156 (.builtin "builtins.copyright#opaque"),
  bnE P "credits" 157 (.builtin "builtins.credits#opaque"),
  bnE P "license" 158 (.builtin "builtins.license#opaque"),
  bnE P "help" 159 (.builtin "builtins.help#opaque")]
noncomputable abbrev bnObj (P : Params) : Obj := ⟨.type "dict", none, .dict (bnEs P) 159, #[]⟩
noncomputable def bigHook (H : Hook) : Hook where
  α := H.α × Option Obj
  obs := fun s => (H.obs s, s.heap.get? builtinsNs)
  val := fun w => (H.val w, some (bnObj w.params))
  says := fun w h => H.says w h ∧ h.get? builtinsNs = some (bnObj w.params)
  of := fun w s x => ⟨H.of w s (Prod.mk.inj x).1, (Prod.mk.inj x).2⟩
  keeps := fun w h h' x k => ⟨H.keeps w h h' x.1 k, k _ _ x.2⟩
end Mine

namespace Mine
theorem absM : ∀ P : Params, absHeap (bt (boot_heap P).objs.toList) 11 (boot_heap P).life = boot_heap P := absB
end Mine
namespace Mine
local macro_rules | `(tactic| o_head $_H) => `(tactic| assumption)
set_option maxRecDepth 100000 in
theorem kmk (h : (OpenLaw.row PySem.Challenge.rw_xm0595_01).Holds) : (OpenLaw.row PySem.Challenge.rw_xm0595_01).Holds := by k_head
noncomputable def asK : List Addr := [2, 3, 15, 17, 18, 20, 21, 22, 29, 30, 32, 33, 35, 36, 37, 38, 39, 40, 43, 50, 52, 53, 55, 56, 57, 58, 59, 62, 64, 65, 67, 68, 69, 71, 72, 74, 75, 76, 79, 80, 81, 84, 85, 86, 88, 89, 91, 92, 93, 96, 97, 98, 99, 101, 102, 104, 105, 106, 108, 109, 111, 112, 113, 115, 116, 118, 119, 120, 122, 123, 125, 126, 127, 129, 130, 132, 133, 134, 137, 138, 139, 141, 142, 144, 145, 153, 154, 155, 157, 158, 160, 161, 162, 163, 164, 165, 166, 176, 177, 179, 180, 182, 183, 184, 186, 187, 189, 190, 191, 192, 193, 194, 195, 198, 200, 201, 203, 204, 205, 207, 208, 210, 211, 212, 214, 215, 217, 218, 219, 221, 222, 224, 225, 226, 228, 229, 231, 232, 233, 236, 237, 238, 241, 242, 243, 245, 246, 248, 249, 250, 252, 253, 255, 256, 257, 259, 260, 262, 263, 264, 267, 268, 269, 271, 272, 274, 275]
theorem asK_eq (P : Params) : asK = (kmk.heap_1 P).map (·.1) := by kernel_rfl
noncomputable abbrev hk1 : Hook := bigHook (kmHook kmk.heap_1 asK asK_eq [265, 239, 94, 270])
set_option maxRecDepth 100000 in
set_option maxHeartbeats 8000000 in
theorem said1 : PySem.Challenge.rw_xm0595_01.wellSaid = true := by
  rw [PySem.W.Fast.te9446332074065402090]
  delta PySem.W.Fast.tw9446332074065402090 PySem.W.Fast.tw17960256430627541270 PySem.W.Fast.tw2436336058641802641 PySem.W.Fast.tw12908688711261696721
  repeat' (with_reducible refine look_both ?_ ?_)
  all_goals decide +kernel
set_option maxRecDepth 100000 in
theorem leftRun : ∀ w : World, (fun os => (topRunT treeTable PySem.Challenge.pw_xm0595_01 w 11 (some (.ref 6)) 3760 (s0T w.params 11 os) (topStub PySem.Challenge.pw_xm0595_01)).map fun s => ((staticsOk (importedModules PySem.Challenge.pw_xm0595_01.main.body) (boot_heap w.params) s.abs.heap && namesBound PySem.Challenge.pw_xm0595_01 s.abs.heap && gensDone s.abs && laidKept (boot_heap w.params) s.abs.heap),
        openSeen qv qloose (importedModules PySem.Challenge.pw_xm0595_01.main.body) (fun s => xlAt qv [] s && recOk [] s) true s.abs, hk1.obs s.abs)) = fun _ => some (true, openGood qv qloose, hk1.val w) := by
  intro w
  rw [PySem.W.Fast.te14364793385576792824, PySem.W.Fast.te4187177175401517315]
  kernel_rfl
theorem leftNs : ∀ w : World, ((boot_heap w.params).isNs mainGlobals, (boot_heap w.params).objs.size, (boot_heap w.params).nsMap mainGlobals "__annotations__") = (true, 11, some (.ref 6)) := by
  intro w
  kernel_rfl
set_option maxRecDepth 100000 in
theorem leftK : LeftO PySem.Challenge.pw_xm0595_01 qv qloose (fun s => xlAt qv [] s && recOk [] s) hk1.obs hk1.val 3760 true := by
  refine left_of (m₀ := 11) (ann := some (.ref 6)) ?h1 leftNs absB leftRun
  refine boot_open ?a ?b ?c
  case a => kernel_rfl
  case b => kernel_rfl
  case c => intro s; kernel_rfl
end Mine

open PySem PySem.W PyProof.Rows PySem.Calls
set_option maxRecDepth 100000 in
theorem Mine.fillMe : (fun (_ : OpenLaw) (_ : Params → Frag) => True) PySem.Challenge.rw_xm0595_01 Mine.kmk.heap_1 := by
  k_fill
  trivial
section
namespace Mine
noncomputable def SrcOk (o : Obj) : Prop := ∃ x tx y ty n, o = listOf #[.int x tx, .int y ty] n ∧ 0 ≤ x ∧ 0 ≤ y ∧ y < 2147483648
noncomputable def Rd (w : World) (news : List (Addr × Obj)) (v : Value) (d : PyData) : Prop := ∀ h : Heap, (Mine.kmk.heap_1 w.params).In h → (∀ p ∈ news, h.get? p.1 = some p.2) → ∃ as, Reads h v d as
theorem Rd.mono {w : World} {n n' : List (Addr × Obj)} {v : Value} {d : PyData} (h : Rd w n v d) (s : ∀ p ∈ n, p ∈ n') : Rd w n' v d := fun hp X k => h hp X fun p hm => k p (s p hm)
theorem Rd.int {w : World} {n : List (Addr × Obj)} {i : Int} {t : Tok} : Rd w n (.int i t) (.int i) := fun _ _ _ => ⟨_, .int _ _⟩
theorem Rd.bool {w : World} {n : List (Addr × Obj)} {b : Bool} : Rd w n (.bool b) (.bool b) := fun _ _ _ => ⟨_, .bool _⟩
theorem Rd.str {w : World} {n : List (Addr × Obj)} {x : Str} {t : Tok} : Rd w n (.str x t) (.str x) := fun _ _ _ => ⟨_, .str _ _⟩
theorem Rd.none {w : World} {n : List (Addr × Obj)} : Rd w n .none .none := fun _ _ _ => ⟨_, .none⟩
noncomputable def RdAll (w : World) (news : List (Addr × Obj)) (vs : List Value) (ds : List PyData) : Prop := ∀ h : Heap, (Mine.kmk.heap_1 w.params).In h → (∀ p ∈ news, h.get? p.1 = some p.2) → ∃ as, ReadsAll h vs ds as
theorem RdAll.nil {w : World} {n : List (Addr × Obj)} : RdAll w n [] [] := fun _ _ _ => ⟨_, .nil⟩
theorem RdAll.cons {w : World} {n : List (Addr × Obj)} {v : Value} {d : PyData} {vs : List Value} {ds : List PyData} (a : Rd w n v d) (b : RdAll w n vs ds) : RdAll w n (v :: vs) (d :: ds) := fun h X k =>
  let ⟨_, r⟩ := a h X k; let ⟨_, q⟩ := b h X k; ⟨_, .cons r q⟩
theorem RdAll.mono {w : World} {n n' : List (Addr × Obj)} {v : List Value} {d : List PyData} (h : RdAll w n v d) (s : ∀ p ∈ n, p ∈ n') : RdAll w n' v d := fun hp X k => h hp X fun p hm => k p (s p hm)
theorem Rd.tuple {w : World} {n : List (Addr × Obj)} {a : Addr} {o : Obj} {vs : List Value} {k : Nat} {ds : List PyData} (hm : (a, o) ∈ n) (hc : o.cls = .type "tuple") (hd : o.data = .seq vs.toArray k) (b : RdAll w n vs ds) : Rd w n (.ref a) (.tuple ds) := fun h X kk =>
  let ⟨_, q⟩ := b h X kk; ⟨_, .tuple (kk _ hm) hc hd (by simpa using q)⟩
theorem Rd.list {w : World} {n : List (Addr × Obj)} {a : Addr} {o : Obj} {vs : List Value} {k : Nat} {ds : List PyData} (hm : (a, o) ∈ n) (hc : o.cls = .type "list") (hd : o.data = .seq vs.toArray k) (b : RdAll w n vs ds) : Rd w n (.ref a) (.list ds) := fun h X kk =>
  let ⟨_, q⟩ := b h X kk; ⟨_, .list (kk _ hm) hc hd (by simpa using q)⟩
theorem Rd.nothing {w : World} {n : List (Addr × Obj)} : Rd w n (.ref 98) (.tuple [.str (Str.ofString "nothing")]) := fun _ X _ =>
  ⟨_, .tuple (X 98 _ rfl) rfl rfl (.cons (.str _ _) .nil)⟩
noncomputable def Good (d : PyData) : Prop := d.canLay0 = true ∧ d.depth ≤ 8
end Mine
namespace Mine
theorem src_head {h₀ h : Heap} {L src : Addr} {o : Obj} {news : List (Addr × Obj)} {g : Obj → List (Addr × Obj)} (N : News h₀ L h news) (U : UpdF src o news g) :
    ∃ rst, News h₀ L h ((src, o) :: rst) ∧ (∀ p ∈ rst, p.1 ≠ src) ∧ (∀ d, AllLt d ((src, o) :: rst) → AllLt d news) ∧ ∀ o' h' tl, News h₀ L h' ((src, o') :: (rst ++ tl)) → News h₀ L h' (g o' ++ tl) := by
  obtain ⟨own, rest, rfl, hg, h1, h2⟩ := U.split
  refine ⟨own ++ rest, fun p hp => N p ?_, fun p hp => ?_, fun d hd => ?_, fun o' h' tl N' p hp => N' p ?_⟩
  · simp only [List.mem_cons, List.mem_append] at hp ⊢
    rcases hp with hp | hp | hp <;> simp only [hp, true_or, or_true]
  · rcases List.mem_append.mp hp with hp | hp
    · exact h1 p hp
    · exact h2 p hp
  · have q : ∀ {d : Addr} {l : List (Addr × Obj)}, AllLt d l → ∀ p ∈ l, p.1 < d := by
      intro d l
      induction l with
      | nil => exact fun _ _ hp => nomatch hp
      | cons x l ih => exact fun hd p hp => (List.mem_cons.mp hp).elim (fun e => e ▸ hd.1) (fun e => ih hd.2 p e)
    refine allLt_of fun p hp => q hd p ?_
    simp only [List.mem_cons, List.mem_append] at hp ⊢
    rcases hp with hp | hp | hp <;> simp only [hp, true_or, or_true]
  · rw [hg] at hp
    simp only [List.mem_cons, List.mem_append] at hp ⊢
    rcases hp with (hp | hp | hp) | hp <;> simp only [hp, true_or, or_true]
theorem allLt_mem {d : Addr} {l : List (Addr × Obj)} (h : AllLt d l) {b : Addr} {o : Obj} (hm : (b, o) ∈ l) : b < d := by
  induction l with
  | nil => nomatch hm
  | cons x l ih => exact (List.mem_cons.mp hm).elim (fun e => by have := h.1; rw [← e] at this; exact this) (fun e => ih h.2 e)
theorem allLt_append {d : Addr} {l r : List (Addr × Obj)} (h : AllLt d l) (q : AllLt d r) : AllLt d (l ++ r) := by
  induction l with
  | nil => exact q
  | cons x l ih => exact ⟨h.1, ih h.2⟩
theorem tl_ne {tl news : List (Addr × Obj)} {b : Addr} {o : Obj} (h : ∀ p ∈ tl, AllLt p.1 news) (hm : (b, o) ∈ news) : ∀ p ∈ tl, p.1 ≠ b := fun p hp => Nat.ne_of_gt (allLt_mem (h p hp) hm)
theorem news_sub {h₀ h : Heap} {L : Addr} {l l' : List (Addr × Obj)} (N : News h₀ L h l) (s : ∀ p ∈ l', p ∈ l) : News h₀ L h l' := fun p hp => N p (s p hp)
theorem bits64 {k : Int} (h1 : 0 ≤ k) (h2 : k < 2147483648) : Builtin.Int.intBits k ≤ 64 := intBits_le_64 (by omega) (by omega)
theorem fm_nonneg {a n : Int} (h : 0 < n) : 0 ≤ a.fmod n := Int.fmod_nonneg_of_pos _ h
theorem fm_lt {a n : Int} (h : 0 < n) : a.fmod n < n := Int.fmod_lt_of_pos _ h
theorem fd_nonneg {a n : Int} (ha : 0 ≤ a) (h : 0 < n) : 0 ≤ a.fdiv n := by
  rw [Int.fdiv_eq_ediv_of_nonneg _ (Int.le_of_lt h)]; exact Int.ediv_nonneg ha (Int.le_of_lt h)
end Mine
namespace Mine
theorem src_head1 {h₀ h : Heap} {L src : Addr} {o : Obj} {news : List (Addr × Obj)} {g : Obj → List (Addr × Obj)} {q : Addr × Obj} (N : News h₀ L h news) (U : UpdF src o news g) (hq : q ∈ news) (hne : q.1 ≠ src) :
    ∃ rst, News h₀ L h ((src, o) :: q :: rst) ∧ (∀ p ∈ q :: rst, p.1 ≠ src) ∧ (∀ d, AllLt d ((src, o) :: q :: rst) → AllLt d news) ∧ ∀ o' h' tl, News h₀ L h' ((src, o') :: q :: (rst ++ tl)) → News h₀ L h' (g o' ++ tl) := by
  obtain ⟨rst, N1, hr, hd, hret⟩ := src_head N U
  refine ⟨rst, fun p hp => ?_, fun p hp => ?_, fun d h => hd d ⟨h.1, h.2.2⟩, fun o' h' tl N' => hret o' h' tl fun p hp => N' p ?_⟩
  · rcases List.mem_cons.mp hp with rfl | hp
    · exact N1 _ (.head _)
    · rcases List.mem_cons.mp hp with rfl | hp
      · exact N _ hq
      · exact N1 _ (.tail _ hp)
  · rcases List.mem_cons.mp hp with rfl | hp
    · exact hne
    · exact hr p hp
  · rcases List.mem_cons.mp hp with rfl | hp
    · exact .head _
    · exact .tail _ (.tail _ hp)
end Mine
namespace Mine
theorem item_listM {prog : Program} {w : World} {A : Around} {E : Value → Shared → Prop} {s : Shared} {value slice : PySem.Expr} {h₀ : Heap} {L l : Addr} {news : List (Addr × Obj)} {its : Array Value} {n : Nat} {k : Int} {u : Tok} {Q : Value → Shared → Prop}
    (N : News h₀ L s.heap news) (hm : (l, listOf its n) ∈ news) (h0 : 0 ≤ k) (hk : k < its.size) (hz : its.size ≤ 256) (h : ∀ v, (∃ i : Nat, its[i]? = some v) → Q v s)
    (hs : subscripted slice false (.ref l) (.int k u) = operate [.ref l, .int k u] (getItem (.ref l) (.int k u)) := by with_unfolding_all rfl) :
    wpAny (model prog w) A (subscriptTail value slice (.ref l) (.int k u)) Q E s := by
  have hl : s.heap.IsList l its := ⟨_, N.get hm, rfl, _, rfl⟩
  have hj : k.toNat < its.size := by omega
  have e : its[k.toNat]? = some its[k.toNat] := by simp [hj]
  exact tail_any hl.typeIs slot_list_getitem.lookup (wpAny_getItem_list hl h0 (by omega) e (h _ ⟨_, e⟩)) hs
end Mine
namespace Mine
theorem rot7 {h₀ h : Heap} {L : Addr} {q : Addr × Obj} {rst : List (Addr × Obj)} {a0 a1 a2 a3 a4 a5 a6 : Addr × Obj} (N : News h₀ L h (a0 :: a1 :: a2 :: a3 :: a4 :: a5 :: a6 :: q :: rst)) : News h₀ L h (q :: (rst ++ [a0, a1, a2, a3, a4, a5, a6])) := news_sub N fun p hp => by
  simp only [List.mem_cons, List.mem_append, List.not_mem_nil, or_false] at hp ⊢
  rcases hp with hp | hp | hp | hp | hp | hp | hp | hp | hp <;> simp only [hp, true_or, or_true]
end Mine
namespace Mine
end Mine
namespace Mine
section
open LCg
variable {h₀ : Heap} {L : Addr} {m : Str → Option Value} {s₁ : Shared} {I C D : Addr} {oI oC oD : Obj} {S : List (Addr × Obj) → Prop} {rest : Value → List (Addr × Obj) → Prop} {y : Value} {h' : Heap} {tk : Nat} {news' : List (Addr × Obj)} {q : Addr × Obj}
theorem tl_off {tl rs : List (Addr × Obj)} (h : ∀ p ∈ tl, AllLt p.1 ((I, oI) :: (C, oC) :: (D, oD) :: rs)) {p : Addr × Obj} (hp : p ∈ tl) : p.1 ≠ I ∧ p.1 ≠ C ∧ p.1 ≠ D :=
  have z := h p hp; ⟨Nat.ne_of_gt z.1, Nat.ne_of_gt z.2.1, Nat.ne_of_gt z.2.2.1⟩
end
end Mine
namespace Mine
theorem allLt_get {d : Addr} {l : List (Addr × Obj)} (h : AllLt d l) : ∀ p ∈ l, p.1 < d := by
  induction l with
  | nil => exact fun _ hp => nomatch hp
  | cons x l ih => exact fun p hp => (List.mem_cons.mp hp).elim (fun e => e ▸ h.1) (fun e => ih h.2 p e)
theorem allLt_ne {d : Addr} {l : List (Addr × Obj)} (h : AllLt d l) : ∀ p ∈ l, p.1 ≠ d := fun p hp => Nat.ne_of_lt (allLt_get h p hp)
end Mine
namespace Mine
end Mine
namespace Mine
theorem allLt_suf {d : Addr} {l l' : List (Addr × Obj)} (h : AllLt d l) (s : ∀ p ∈ l', p ∈ l) : AllLt d l' := allLt_of fun p hp => (by
  have q : ∀ {l : List (Addr × Obj)}, AllLt d l → ∀ p ∈ l, p.1 < d := by
    intro l
    induction l with
    | nil => exact fun _ _ hp => nomatch hp
    | cons x l ih => exact fun hd p hp => (List.mem_cons.mp hp).elim (fun e => e ▸ hd.1) (fun e => ih hd.2 p e)
  exact q h p (s p hp))
theorem allLt_succ {d : Nat} {l : List (Addr × Obj)} (h : AllLt d l) : AllLt (d + 1) l := by
  induction l with
  | nil => trivial
  | cons x l ih => exact ⟨Nat.lt_succ_of_lt h.1, ih h.2⟩
theorem lt_via {a m x : Nat} (h : m < x) (k : a < m) : a < x := Nat.lt_trans k h
theorem allLt_src {d x : Addr} {o o' : Obj} {rst l : List (Addr × Obj)} (h : AllLt d l) (m : (x, o') ∈ l) (s : ∀ p ∈ rst, p ∈ l) : AllLt d ((x, o) :: rst) := ⟨allLt_mem h m, allLt_suf h s⟩
theorem lt_nil {l : List (Addr × Obj)} : ∀ p ∈ ([] : List (Addr × Obj)), AllLt p.1 l := fun _ h => nomatch h
theorem lt_cons {d : Addr} {o : Obj} {tl l : List (Addr × Obj)} (h : AllLt d l) (k : ∀ p ∈ tl, AllLt p.1 l) : ∀ p ∈ (d, o) :: tl, AllLt p.1 l := fun p hp => (List.mem_cons.mp hp).elim (fun e => e ▸ h) (k p)
theorem lt_app {t1 t2 l : List (Addr × Obj)} (h : ∀ p ∈ t1, AllLt p.1 l) (k : ∀ p ∈ t2, AllLt p.1 l) : ∀ p ∈ t1 ++ t2, AllLt p.1 l := fun p hp => (List.mem_append.mp hp).elim (h p) (k p)
theorem lts_for {h₀ h : Heap} {L : Addr} {gl : List (Addr × Obj)} {q : Addr × Obj} {rst tl news : List (Addr × Obj)} (_ : News h₀ L h (gl ++ tl)) (hlt : ∀ d, AllLt d (q :: rst) → AllLt d news) (h : ∀ p ∈ tl, AllLt p.1 (q :: rst)) : ∀ p ∈ tl, AllLt p.1 news := fun p hp => hlt _ (h p hp)
end Mine
namespace Mine
open PySem.W.X in
noncomputable def AllNe (d : Addr) : List (Addr × Obj) → Prop
  | [] => True
  | p :: r => @Ne Nat d p.1 ∧ AllNe d r
theorem allNe_of {d : Addr} : ∀ {l : List (Addr × Obj)}, (∀ p ∈ l, d ≠ p.1) → AllNe d l
  | [], _ => trivial
  | _ :: _, h => ⟨h _ (.head _), allNe_of fun q hq => h q (.tail _ hq)⟩
theorem allNe_get {d : Addr} {l : List (Addr × Obj)} (h : AllNe d l) : ∀ p ∈ l, p.1 ≠ d := by
  induction l with
  | nil => exact fun _ hp => nomatch hp
  | cons x l ih => exact fun p hp => (List.mem_cons.mp hp).elim (fun e => e ▸ Ne.symm h.1) (fun e => ih h.2 p e)
end Mine
namespace Mine
noncomputable def XPost (s : Shared) (P : Value → List (Addr × Obj) → Prop) (v : Value) (s' : Shared) : Prop := ∃ h' tk nw, s' = { s with heap := h', toks := tk } ∧ X.Mem s.heap h' [] nw ∧ P v nw
end Mine
namespace Mine
theorem gen_tok {M : Model} {A : Around} {α : Type} {t : Sem α} {Q : α → Shared → Prop} {E : Value → Shared → Prop} {h : Heap} {g : Array GenState} {d : Drawn} {X : Nat} {os : OsState} (k : ∀ tk, wpAny M A t Q E ⟨h, g, d, tk, os⟩) : wpAny M A t Q E ⟨h, g, d, X, os⟩ := k X
end Mine
end
section
namespace Mine
open PySem.Spec PySem.Calls
section
variable (cn : Str) (cs : Scope) (L a : Addr) (ccd : Value) (cl : List (Str × Addr)) (m : Str → Option Value)
noncomputable def sv (t : Tok) : PySem.Expr → Option (Value × Tok)
  | .Name x _ => match (envX cn cs L a ccd cl).kindOf x with
    | some .local => match x == ("__debug__" : Str) with
      | true => none
      | false => match m x with
        | some v => some (v, t)
        | none => none
    | _ => none
  | .Constant (.int i) _ _ => some (.int i t, t + 1)
  | .Constant (.str x) _ _ => some (.str x t, t + 1)
  | .Constant (.bool b) _ _ => some (.bool b, t)
  | .Constant .none _ _ => some (.none, t)
  | _ => none
noncomputable def sm1 : PySem.Expr → Bool
  | .Name x _ => match (envX cn cs L a ccd cl).kindOf x with
    | some .local => true
    | _ => false
  | .Constant (.int _) _ _ => true
  | .Constant (.str _) _ _ => true
  | .Constant (.bool _) _ _ => true
  | .Constant .none _ _ => true
  | _ => false
noncomputable def sms : List PySem.Expr → Bool
  | [] => true
  | e :: r => match sm1 cn cs L a ccd cl e with
    | true => sms r
    | false => false
noncomputable def svs : Tok → List PySem.Expr → Option (List Value × Tok)
  | t, [] => some ([], t)
  | t, e :: r => match sv cn cs L a ccd cl m t e with
    | none => none
    | some (v, t1) => match svs t1 r with
      | none => none
      | some (vs, t2) => some (v :: vs, t2)
end
section
variable {M : Model} {A : Around} {E : Value → Shared → Prop} {s : Shared} {h₀ : Heap} {L a : Addr} {m : Str → Option Value} {cn : Str} {cs : Scope} {ccd : Value} {cl : List (Str × Addr)}
theorem eval_sv {e : PySem.Expr} {v : Value} {t' : Tok} {Q : Value → Shared → Prop} (F : Fr h₀ L s.heap m) (hk : cs.kind = .function) (h : sv cn cs L a ccd cl m s.toks e = some (v, t')) (hq : Q v { s with toks := t' }) : wpAny M A (eval e (envX cn cs L a ccd cl)) Q E s := by
  cases e with
  | Name x p =>
    delta sv at h
    dsimp only at h
    split at h
    · rename_i hx
      split at h
      · cases h
      · rename_i hd
        split at h
        · rename_i v' hv
          cases h
          exact nameX_L F hv hq hk hx hd
        · cases h
    · cases h
  | Constant c k p =>
    cases c with
    | int i => cases h; exact wpAny_Constant_int hq
    | str x => cases h; exact fun _ _ _ => hq
    | bool b => cases h; exact fun _ _ _ => hq
    | none => cases h; exact fun _ _ _ => hq
    | _ => exact (Option.some_ne_none _ (Eq.symm (show (none : Option (Value × Tok)) = some (v, t') from h))).elim
  | _ => exact (Option.some_ne_none _ (Eq.symm (show (none : Option (Value × Tok)) = some (v, t') from h))).elim
theorem sv_star {e : PySem.Expr} {v : Value} {t t' : Tok} (h : sv cn cs L a ccd cl m t e = some (v, t')) (rest : List PySem.Expr) (env : Env) : starEach (e :: rest) env = (false, eval e env) :: starEach rest env := by
  cases e with
  | Starred x p => exact (Option.some_ne_none _ (Eq.symm (show (none : Option (Value × Tok)) = some (v, t') from h))).elim
  | _ => rfl
theorem eval_svr {e : PySem.Expr} {v : Value} {h : Heap} {g : Array GenState} {d : Drawn} {os : OsState} {t t' : Tok} {Q : Value → Shared → Prop} (F : Fr h₀ L h m) (hk : cs.kind = .function) (hv : sv cn cs L a ccd cl m t e = some (v, t')) (hq : Q v ⟨h, g, d, t', os⟩) : wpAny M A (eval e (envX cn cs L a ccd cl)) Q E ⟨h, g, d, t, os⟩ := eval_sv (s := ⟨h, g, d, t, os⟩) F hk hv hq
theorem spl_svs {pos : Pos} {h : Heap} {g : Array GenState} {d : Drawn} {os : OsState} (hk : cs.kind = .function) : ∀ (es : List PySem.Expr) {vs : List Value} {t t' : Tok} {Q : List Value → Shared → Prop} (_ : Fr h₀ L h m) (_ : svs cn cs L a ccd cl m t es = some (vs, t')) (_ : Q vs ⟨h, g, d, t', os⟩),
    wpAny M A (spliced (backTo pos (starEach es (envX cn cs L a ccd cl)))) Q E ⟨h, g, d, t, os⟩
  | [], _, _, _, _, _, h, hq => by
    cases h
    exact spliced_none hq
  | e :: r, vs, t, t', Q, F, h, hq => by
    simp only [svs] at h
    split at h
    · cases h
    · rename_i v t1 hv
      split at h
      · cases h
      · rename_i vs' t2 hr
        cases h
        exact spliced_more (eval_svr F hk hv (spl_svs hk r F hr hq)) (sv_star hv r _)
theorem spl_g {pos : Pos} {h : Heap} {g : Array GenState} {d : Drawn} {os : OsState} {es : List PySem.Expr} {vs : List Value} {t t' : Tok} {Q : List Value → Shared → Prop} (_ : sms cn cs L a ccd cl es = true) (hk : cs.kind = .function) (F : Fr h₀ L h m) (hv : svs cn cs L a ccd cl m t es = some (vs, t')) (hq : Q vs ⟨h, g, d, t', os⟩) : wpAny M A (spliced (backTo pos (starEach es (envX cn cs L a ccd cl)))) Q E ⟨h, g, d, t, os⟩ := spl_svs hk es F hv hq
variable {news : List (Addr × Obj)} {pos : Pos} {Q : Value → Shared → Prop} {h : Heap} {g : Array GenState} {d : Drawn} {os : OsState} {t : Tok}
theorem tuple_svs {es : List PySem.Expr} {k : Nat} {vs : List Value} {t' : Tok} (_ : sms cn cs L a ccd cl es = true) (hk : cs.kind = .function) (F : Fr h₀ L h m) (N : News h₀ L h news) (hv : svs cn cs L a ccd cl m t es = some (vs, t')) (hz : vs.length ≤ sizeLine)
    (ret : ∀ D h', let o : Obj := { cls := .type "tuple", data := .seq vs.toArray }; Fr h₀ L h' m → News h₀ L h' ((D, o) :: news) → AllLt D news → Q (.ref D) ⟨h', g, d, t', os⟩) : wpAny M A (eval (.Tuple es k pos) (envX cn cs L a ccd cl)) Q E ⟨h, g, d, t, os⟩ :=
  Tuple_ (spl_svs hk es F hv (kup_newTuple (s := ⟨h, g, d, t', os⟩) F N (fun D h' F' N' l => ret D h' F' N' (allLt_of l)) hz))
theorem list_svs {es : List PySem.Expr} {vs : List Value} {t' : Tok} (_ : sms cn cs L a ccd cl es = true) (hk : cs.kind = .function) (F : Fr h₀ L h m) (N : News h₀ L h news) (hv : svs cn cs L a ccd cl m t es = some (vs, t')) (hz : vs.length ≤ sizeLine)
    (ret : ∀ D h', let o : Obj := listOf vs.toArray 0; Fr h₀ L h' m → News h₀ L h' ((D, o) :: news) → AllLt D news → Q (.ref D) ⟨h', g, d, t', os⟩) : wpAny M A (eval (.List es pos) (envX cn cs L a ccd cl)) Q E ⟨h, g, d, t, os⟩ :=
  List_ (spl_svs hk es F hv (newList_K (s := ⟨h, g, d, t', os⟩) F N (fun D h' F' N' l => ret D h' F' N' (allLt_of l)) hz))
theorem tuple_o {vs : List Value} (F : Fr h₀ L h m) (N : News h₀ L h news) (hz : vs.length ≤ sizeLine)
    (ret : ∀ D h', let o : Obj := { cls := .type "tuple", data := .seq vs.toArray }; Fr h₀ L h' m → News h₀ L h' ((D, o) :: news) → AllLt D news → Q (.ref D) ⟨h', g, d, t, os⟩) : wpAny M A (newTuple vs) Q E ⟨h, g, d, t, os⟩ :=
  kup_newTuple (s := ⟨h, g, d, t, os⟩) F N (fun D h' F' N' l => ret D h' F' N' (allLt_of l)) hz
theorem list_o {vs : List Value} (F : Fr h₀ L h m) (N : News h₀ L h news) (hz : vs.length ≤ sizeLine)
    (ret : ∀ D h', let o : Obj := listOf vs.toArray 0; Fr h₀ L h' m → News h₀ L h' ((D, o) :: news) → AllLt D news → Q (.ref D) ⟨h', g, d, t, os⟩) : wpAny M A (newList vs) Q E ⟨h, g, d, t, os⟩ :=
  newList_K (s := ⟨h, g, d, t, os⟩) F N (fun D h' F' N' l => ret D h' F' N' (allLt_of l)) hz
theorem store_o {x : Str} {v : Value} {Q : Unit → Shared → Prop} (F : Fr h₀ L h m) (N : News h₀ L h news)
    (ret : ∀ h', let m' : Str → Option Value := fun y => if y = x then some v else m y; Fr h₀ L h' m' → News h₀ L h' news → Q () ⟨h', g, d, t + 1, os⟩)
    (hk : cs.kind = .function) (hx : (envX cn cs L a ccd cl).kindOf x = some .local) : wpAny M A (storeName (envX cn cs L a ccd cl) x v) Q E ⟨h, g, d, t, os⟩ :=
  storeX_L (s := ⟨h, g, d, t, os⟩) F N ret hk hx
theorem isTrue_sv {l r : PySem.Expr} {op : CmpOp} {x y : Value} {t1 t2 : Tok} {whole : Sem Value} {Q : Bool → Shared → Prop} (_ : sms cn cs L a ccd cl [l, r] = true) (hk : cs.kind = .function) (F : Fr h₀ L h m) (hl : sv cn cs L a ccd cl m t l = some (x, t1)) (hr : sv cn cs L a ccd cl m t1 r = some (y, t2))
    (hq : wpAny M A (compareOp op x y) (fun c s₃ => wpAny M A (truthy c) Q E s₃) E ⟨h, g, d, t2, os⟩) (hm : behindInMarks op r = false := by with_unfolding_all rfl) : wpAny M A (isTrue (.Compare l [op] [r] pos) (envX cn cs L a ccd cl) whole) Q E ⟨h, g, d, t, os⟩ :=
  wpAny_isTrue_Compare1 (eval_svr F hk hl (eval_svr F hk hr hq)) hm
theorem isTrue_sub {l i : PySem.Expr} {x : Str} {k p2 p3} {op : CmpOp} {o j : Value} {t1 t2 : Tok} {whole : Sem Value} {Q : Bool → Shared → Prop} (_ : sms cn cs L a ccd cl [l, i] = true) (hk : cs.kind = .function) (F : Fr h₀ L h m) (hl : sv cn cs L a ccd cl m t l = some (o, t1)) (hi : sv cn cs L a ccd cl m t1 i = some (j, t2))
    (hq : wpAny M A (subscriptTail l i o j) (fun v s₁ => wpAny M A (compareOp op v (.str x s₁.toks)) (fun c s₃ => wpAny M A (truthy c) Q E s₃) E { s₁ with toks := s₁.toks + 1 }) E ⟨h, g, d, t2, os⟩) (hm : behindInMarks op (.Constant (.str x) k p3) = false := by with_unfolding_all rfl) : wpAny M A (isTrue (.Compare (.Subscript l i p2) [op] [.Constant (.str x) k p3] pos) (envX cn cs L a ccd cl) whole) Q E ⟨h, g, d, t, os⟩ :=
  wpAny_isTrue_Compare1 (Subscript_ (eval_svr F hk hl (eval_svr F hk hi (wpAny_mono hq (fun _ _ z => Constant_str z) fun _ _ z => z)))) hm
theorem sub_sv {l i : PySem.Expr} {o j : Value} {t1 t2 : Tok} (_ : sms cn cs L a ccd cl [l, i] = true) (hk : cs.kind = .function) (F : Fr h₀ L h m) (hl : sv cn cs L a ccd cl m t l = some (o, t1)) (hi : sv cn cs L a ccd cl m t1 i = some (j, t2))
    (hq : wpAny M A (subscriptTail l i o j) Q E ⟨h, g, d, t2, os⟩) : wpAny M A (eval (.Subscript l i pos) (envX cn cs L a ccd cl)) Q E ⟨h, g, d, t, os⟩ :=
  Subscript_ (eval_svr F hk hl (eval_svr F hk hi hq))
theorem bin_sv {l r : PySem.Expr} {op : Operator} {x y : Value} {t1 t2 : Tok} (_ : sms cn cs L a ccd cl [l, r] = true) (hk : cs.kind = .function) (F : Fr h₀ L h m) (hl : sv cn cs L a ccd cl m t l = some (x, t1)) (hr : sv cn cs L a ccd cl m t1 r = some (y, t2))
    (hq : wpAny M A (binaryOp op x y) Q E ⟨h, g, d, t2, os⟩) : wpAny M A (eval (.BinOp l op r pos) (envX cn cs L a ccd cl)) Q E ⟨h, g, d, t, os⟩ :=
  wpAny_BinOp (eval_svr F hk hl (eval_svr F hk hr hq))
theorem call_svs {prog : Program} {w : World} {K : Frag} {p : Program} {loose : List Str} {mean : ExcName → Option Value} {mg mb : Str → Option Value} {x : Str} {p1 : Pos} {v : Value} {e : PySem.Expr} {rest : List PySem.Expr} {vs : List Value} {t' : Tok} (_ : sms cn cs L a ccd cl (e :: rest) = true) (hk : cs.kind = .function) (F : Fr h₀ L h m) (X : K.In h₀) (T : Top p loose mean mg mb h₀)
    (hx : nsIn K mainGlobals x = some (some v)) (hv : keepIn K v = true) (hvs : svs cn cs L a ccd cl m t (e :: rest) = some (vs, t')) (hq : wpAny (model prog w) A (call v vs) Q E ⟨h, g, d, t', os⟩)
    (hx2 : (envX cn cs L a ccd cl).kindOf x = some .globalImplicit := by rfl) (hd : (x == ("__debug__" : Str)) = false := by decide) (he : starEach (e :: rest) (envX cn cs L a ccd cl) = (false, eval e (envX cn cs L a ccd cl)) :: starEach rest (envX cn cs L a ccd cl) := by rfl) (hplain : (backTo pos (starEach rest (envX cn cs L a ccd cl))).any (·.1) = false := by rfl) :
    wpAny (model prog w) A (eval (.Call (.Name x p1) (e :: rest) [] pos) (envX cn cs L a ccd cl)) Q E ⟨h, g, d, t, os⟩ :=
  Call_ (nameX_K (s := ⟨h, g, d, t, os⟩) F X (topRead_of T) hx (callWith_K X hv (spl_svs hk (e :: rest) F hvs ⟨X.keeps F.keep, hq⟩) he hplain) hk hx2 hd)
end
end Mine
end
section
local macro_rules | `(tactic| k_all) => `(tactic| first | with_reducible assumption | exact Mine.tl_ne (by with_reducible assumption) (by k_mem) | exact Mine.allLt_ne (by simp only [*]) | exact Mine.allLt_neS (k := 1) (by simp only [*]) | exact Mine.allLt_neSS (by simp only [*]) | exact Mine.allLt_neSSS (by simp only [*]) | (refine List.forall_mem_append.mpr ⟨?_, ?_⟩ <;> k_all))
section
namespace Mine
set_option maxRecDepth 100000 in
set_option maxHeartbeats 8000000 in
theorem take_ok {prog : Program} {w : World} {p : Program} {loose : List Str} {mean : ExcName → Option Value} {mg mb : Str → Option Value} {dp un : Nat} {gd : Option (List Code)} {cn : Str} {cs : Scope} {a : Addr} {ccd : Value} {cl : List (Str × Addr)} {outer : List Env} {A₀ : Around} {base h₀ : Heap} {L : Addr} {m : Str → Option Value} {s : Shared} {Q E : Value → Shared → Prop} {news : List (Addr × Obj)}
    (B : Below A₀ base outer h₀) (F : Fr h₀ L s.heap m) (X : (Mine.kmk.heap_1 w.params).In h₀) (N : News h₀ L s.heap news) (T : Top p loose mean mg mb h₀) (hk : cs.kind = .function)
    {src : Addr} {o : Obj} {g : Obj → List (Addr × Obj)} (U : UpdF src o news g) (ho : SrcOk o) {top : Int} {tt : Tok} (ht : 2 ≤ top) (ht2 : top ≤ 256)
    (hdp : dp + 2 < recursionLimit) (hun : un + 20 < cLine)
    (ret : ∀ d td o' h' tk', 0 ≤ d → d < top → SrcOk o' → Fr h₀ L h' m → News h₀ L h' (g o') → Q (.int d td) { s with heap := h', toks := tk' }) :
    wpAny (model prog w) (ktrTop dp un gd cn cs L a ccd cl outer) (call (.ref 211) [.ref src, .int top tt]) Q E s := by
  obtain ⟨rst, N1, hr, -, hret⟩ := src_head N U
  clear N U
  obtain ⟨x, tx, y, ty, n, rfl, hx, hy, hy2⟩ := ho
  have N := N1
  clear N1
  refine wpAny_call ?_
  k_dflt ktr_enter
  (repeat' (first | (k_unfold; (try dsimp only)) | (k_end; wrow_close) | ((with_reducible show wpAny _ _ (binaryOp Operator.Mult (Value.int _ _) (Value.int _ _)) _ _ _); (refine' P.mul_int ?_ (IntMulOk.of_left (bits64 ?_ ?_)); rotate_left; (simp only [Int.toNat_zero, Int.toNat_one, List.getD_cons_zero, List.getD_cons_succ]; first | assumption | exact fm_nonneg (by omega)); (simp only [Int.toNat_zero, Int.toNat_one, List.getD_cons_zero, List.getD_cons_succ]; first | omega | exact Int.lt_trans (fm_lt (by omega)) (by omega)))) | ((with_reducible show wpAny _ _ (storeName _ _ _) _ _ _); (k_dflt (refine store_o (by k_asm) (by k_asm) ?_ (by first | exact rfl | assumption) (by rfl)); intro hw7 mw7 Fw7 Nw7)) | ((with_reducible show wpAny _ _ (eval (PySem.Expr.Subscript _ _ _) _) _ _ _); (k_dflt (refine sub_sv (by rfl) (by first | exact rfl | assumption) (by k_asm) (by rfl) (by rfl) ?_))) | ((with_reducible show wpAny _ _ (execs [] _) _ _ _); ((with_reducible refine Mine.gen_tok ?_); intro tk; (with_reducible refine wpAny_execs_nil ?_); (try dsimp only))) | ((with_reducible show wpAny _ _ (execs (_ :: _) _) _ _ _); ((with_reducible refine Mine.gen_tok ?_); intro tk; (with_reducible refine wpAny_execs_cons ?_); (try dsimp only))) | walk1 | (dsimp only; walk1) | (leave1; walk_say "STEP leave1"; try dsimp only) | fail "no step"))
  all_goals
    refine ret _ _ _ _ _ ?_ ?_ ⟨_, _, _, _, _, rfl, ?_, ?_, ?_⟩ (by k_asm) (by have hz := hret _ _ [] (by rw [List.append_nil]; k_asm); rw [List.append_nil] at hz; exact hz)
    all_goals (try simp only [Int.toNat_zero, Int.toNat_one, List.getD_cons_zero, List.getD_cons_succ] at *)
    all_goals first | omega | exact fm_nonneg (by omega) | exact fm_lt (by omega) | exact fd_nonneg (by omega) (by omega) | exact Int.lt_trans (fm_lt (by omega)) (by omega)
end Mine
end
section
namespace Mine

set_option maxRecDepth 100000 in
set_option maxHeartbeats 8000000 in
theorem one_ok {prog : Program} {w : World} {p : Program} {loose : List Str} {mean : ExcName → Option Value} {mg mb : Str → Option Value} {dp un : Nat} {gd : Option (List Code)} {cn : Str} {cs : Scope} {a : Addr} {ccd : Value} {cl : List (Str × Addr)} {outer : List Env} {A₀ : Around} {base h₀ : Heap} {L : Addr} {m : Str → Option Value} {s : Shared} {Q E : Value → Shared → Prop} {news : List (Addr × Obj)}
    (B : Below A₀ base outer h₀) (F : Fr h₀ L s.heap m) (X : (Mine.kmk.heap_1 w.params).In h₀) (N : News h₀ L s.heap news) (T : Top p loose mean mg mb h₀) (hk : cs.kind = .function)
    {src : Addr} {o : Obj} {g : Obj → List (Addr × Obj)} (U : UpdF src o news g) (ho : SrcOk o) {lt : Addr} {its : Array Value} {ln : Nat} (hm : (lt, listOf its ln) ∈ news) (hne : lt ≠ src) (hs : 2 ≤ its.size) (hs2 : its.size ≤ 256)
    (hdp : dp + 3 < recursionLimit) (hun : un + 40 < cLine)
    (ret : ∀ v o' h' tk', (∃ i : Nat, its[i]? = some v) → SrcOk o' → Fr h₀ L h' m → News h₀ L h' (g o') → Q v { s with heap := h', toks := tk' }) :
    wpAny (model prog w) (ktrTop dp un gd cn cs L a ccd cl outer) (call (.ref 218) [.ref src, .ref lt]) Q E s := by
  obtain ⟨rst, N1, hr, -, hret⟩ := src_head1 N U hm hne
  clear N U hm
  have N := N1
  clear N1
  refine wpAny_call ?_
  k_dflt ktr_enter
  (repeat' (first | (k_unfold; (try dsimp only)) | (k_end; wrow_close) | (((with_reducible show wpAny _ _ (subscriptTail _ _ (Value.ref _) (Value.int _ _)) _ _ _); k_dflt (refine' item_listM ?N ?hm ?h0 ?hk ?hz ?_ ?hs; (case N => k_asm); (case hm => k_mem); (case h0 => omega); (case hk => assumption); (case hz => first | assumption | (simp only [List.size_toArray, List.length_cons, List.length_nil]; omega)); (case hs => with_unfolding_all rfl)); intro vI hvI)) | (((with_reducible show wpAny _ _ (call (Value.ref 211) [Value.ref _, Value.int _ _]) _ _ _); k_dflt (refine' take_ok ?B ?F ?X ?N ?T ?hk ?U ?ho ?h1 ?h2 ?hd ?hu ?_; (case B => k_asm); (case F => k_asm); (case X => k_asm); (case N => k_asm); (case T => k_asm); (case hk => first | exact rfl | assumption); (case U => k_updF); (case ho => assumption); (case h1 => first | omega | (simp only [List.size_toArray, List.length_cons, List.length_nil]; omega)); (case h2 => first | omega | (simp only [List.size_toArray, List.length_cons, List.length_nil]; omega)); (case hd => ktr_room); (case hu => ktr_units)); intro dT tT oT hT tkT hdT hdT2 hoT F' N'; (try dsimp only at N'); (try k_sweep))) | ((with_reducible show wpAny _ _ (spliced (backTo _ (starEach (_ :: _) _))) _ _ _); (k_dflt (refine spl_g (by rfl) (by first | exact rfl | assumption) (by k_asm) (by rfl) ?_))) | ((with_reducible show wpAny _ _ (callWith _ (Value.ref _) _ _ _) _ _ _); (k_here; k_dflt (first | refine' callWith_K ?k1 ?k2 ?_; (case k1 => k_asm); (case k2 => k_is); k_whole | refine' callWith_K0 ?k1 ?k2 ?_; (case k1 => k_in); (case k2 => k_is); k_whole))) | ((with_reducible show wpAny _ _ (execs (_ :: _) _) _ _ _); ((with_reducible refine Mine.gen_tok ?_); intro tk; (with_reducible refine wpAny_execs_cons ?_); (try dsimp only))) | walk1 | (dsimp only; walk1) | (leave1; walk_say "STEP leave1"; try dsimp only) | fail "no step"))
  exact ret _ _ _ _ (by assumption) (by assumption) (by k_asm) (by have hz := hret _ _ [] (by rw [List.append_nil]; k_asm); rw [List.append_nil] at hz; exact hz)
end Mine
end
end
section
local macro_rules | `(tactic| lcg_src) => `(tactic| first | with_reducible assumption | exact List.mem_cons_self | (refine List.mem_cons_of_mem _ ?_; lcg_src) | (refine List.mem_append_right _ ?_; lcg_src) | (refine List.mem_append_left _ ?_; lcg_src))
local macro_rules | `(tactic| k_lt $h) => `(tactic| replace $h := allLt_of $h)
local macro_rules | `(tactic| kaf_pre) => `(tactic| first | with_reducible assumption | exact Mine.allLt_mem (by with_reducible assumption) (by lcg_src) | exact Nat.lt_succ_self _ | (refine Mine.lt_via (by with_reducible assumption) ?_; kaf_pre) | (refine Nat.lt_succ_of_lt ?_; kaf_pre))
local macro_rules | `(tactic| k_ne) => `(tactic| (refine neN ?_; (try dsimp only); first | with_reducible assumption | exact Nat.ne_of_gt (by kaf_pre) | exact Nat.ne_of_lt (by kaf_pre) | omega))
local macro_rules | `(tactic| kaf_suf) => `(tactic| first | exact Mine.allLt_suf (by with_reducible assumption) (by intro p hp; lcg_src) | (refine Mine.allLt_succ ?_; kaf_suf))
local macro_rules | `(tactic| k_all) => `(tactic| first | with_reducible assumption | exact Mine.tl_ne (by with_reducible assumption) (by k_mem) | exact Mine.allLt_ne (by kaf_suf) | (refine List.forall_mem_append.mpr ⟨?_, ?_⟩ <;> k_all))
section
namespace Mine
local macro_rules | `(tactic| ked_read) => `(tactic| first | exact Rd.int | exact Rd.str | exact Rd.bool | exact Rd.nothing | exact Rd.none | with_reducible assumption | (refine' Rd.tuple ?hm ?hc ?hd ?b; (case hm => k_mem); (case hc => rfl); (case hd => rfl); (case b => ked_reads)) | (refine' Rd.list ?hm ?hc ?hd ?b; (case hm => k_mem); (case hc => rfl); (case hd => rfl); (case b => ked_reads)))
local macro_rules | `(tactic| ked_reads) => `(tactic| first | exact RdAll.nil | (refine' RdAll.cons ?a ?b; (case a => ked_read); (case b => ked_reads)) | with_reducible assumption)

set_option maxRecDepth 100000 in
set_option maxHeartbeats 8000000 in
theorem leaf_ok {prog : Program} {w : World} {p : Program} {loose : List Str} {mean : ExcName → Option Value} {mg mb : Str → Option Value} {dp un : Nat} {gd : Option (List Code)} {cn : Str} {cs : Scope} {a : Addr} {ccd : Value} {cl : List (Str × Addr)} {outer : List Env} {A₀ : Around} {base h₀ : Heap} {L : Addr} {m : Str → Option Value} {s : Shared} {Q E : Value → Shared → Prop} {news : List (Addr × Obj)}
    (B : Below A₀ base outer h₀) (F : Fr h₀ L s.heap m) (X : (Mine.kmk.heap_1 w.params).In h₀) (N : News h₀ L s.heap news) (T : Top p loose mean mg mb h₀) (hk : cs.kind = .function)
    {src : Addr} {o : Obj} {g : Obj → List (Addr × Obj)} (U : UpdF src o news g) (ho : SrcOk o) 
    (hdp : dp + 4 < recursionLimit) (hun : un + 60 < cLine)
    (ret : ∀ v d tl o' h' tk', Rd w tl v d → Good d → (∀ p ∈ tl, AllLt p.1 news) → SrcOk o' → Fr h₀ L h' m → News h₀ L h' (g o' ++ tl) → Q v { s with heap := h', toks := tk' }) :
    wpAny (model prog w) (ktrTop dp un gd cn cs L a ccd cl outer) (call (.ref 232) [.ref src]) Q E s := by
  obtain ⟨rst, N1, hr, hlt, hret⟩ := src_head N U
  clear N U
  have N := N1
  clear N1
  refine wpAny_call ?_
  k_dflt ktr_enter
  (repeat' (first | (k_unfold; (try dsimp only)) | (k_end; wrow_close) | (((with_reducible show wpAny _ _ (call (Value.ref 218) [Value.ref _, Value.ref _]) _ _ _); k_dflt (refine' one_ok ?B ?F ?X ?N ?T ?hk ?U ?ho ?hm ?hne ?h1 ?h2 ?hd ?hu ?_; (case B => k_asm); (case F => k_asm); (case X => k_asm); (case N => k_asm); (case T => k_asm); (case hk => first | exact rfl | assumption); (case U => k_updF); (case ho => assumption); (case hm => k_mem); (case hne => k_ne); (case h1 => simp only [List.size_toArray, List.length_cons, List.length_nil]; omega); (case h2 => simp only [List.size_toArray, List.length_cons, List.length_nil]; omega); (case hd => ktr_room); (case hu => ktr_units)); intro vO oO hO tkO hvO hoO F' N'; (try dsimp only at N'); (try k_sweep))) | ((with_reducible show wpAny _ _ (newList _) _ _ _); (k_dflt (refine list_o (by k_asm) (by k_asm) (by size_fits) ?_); intro Dw7 hw7 ow7 Fw7 Nw7 lw7)) | ((with_reducible show wpAny _ _ (newTuple _) _ _ _); (k_dflt (refine tuple_o (by k_asm) (by k_asm) (by size_fits) ?_); intro Dw7 hw7 ow7 Fw7 Nw7 lw7)) | ((with_reducible show wpAny _ _ (eval (PySem.Expr.Tuple _ _ _) _) _ _ _); (k_dflt (refine tuple_svs (by rfl) (by first | exact rfl | assumption) (by k_asm) (by k_asm) (by rfl) (by size_fits) ?_); intro Dw7 hw7 ow7 Fw7 Nw7 lw7)) | ((with_reducible show wpAny _ _ (callWith _ (Value.ref _) _ _ _) _ _ _); (k_here; k_dflt (first | refine' callWith_K ?k1 ?k2 ?_; (case k1 => k_asm); (case k2 => k_is); k_whole | refine' callWith_K0 ?k1 ?k2 ?_; (case k1 => k_in); (case k2 => k_is); k_whole); (try dsimp only [List.nil_append, List.append_nil]))) | ((with_reducible show wpAny _ _ (execs (_ :: _) _) _ _ _); ((with_reducible refine Mine.gen_tok ?_); intro tk; (with_reducible refine wpAny_execs_cons ?_); (try dsimp only))) | walk1 | (dsimp only; walk1) | (leave1; walk_say "STEP leave1"; try dsimp only) | fail "no step"))
  (with_reducible rename (∃ i : Nat, _ = some _) => hv)
  obtain ⟨i, hv⟩ := hv
  have NF := hret _ _ _ (rot7 (by k_asm))
  have hLt := lts_for NF hlt (by repeat' (first | exact lt_nil | refine lt_cons (allLt_src (by with_reducible assumption) (by lcg_src) (by intro p hp; lcg_src)) ?_))
  (with_reducible rename SrcOk _ => hoF)
  rcases i with _ | _ | _ | _ | _ | _ | _ | i
  all_goals (try (simp at hv; done))
  all_goals (simp only [Nat.zero_add, List.getElem?_toArray, List.getElem?_cons_succ, List.getElem?_cons_zero, Option.some.injEq] at hv; subst hv)
  all_goals exact ret _ _ _ _ _ _ (by ked_read) ⟨by decide +kernel, by decide +kernel⟩ hLt hoF (by k_asm) NF
end Mine
end
end
section
local macro_rules | `(tactic| k_all) => `(tactic| first | with_reducible assumption | exact Mine.tl_ne (by with_reducible assumption) (by k_mem) | exact Mine.allLt_ne (by simp only [*]) | exact Mine.allLt_neS (k := 1) (by simp only [*]) | exact Mine.allLt_neSS (by simp only [*]) | exact Mine.allLt_neSSS (by simp only [*]) | (refine List.forall_mem_append.mpr ⟨?_, ?_⟩ <;> k_all))
section
namespace Mine
open PySem.Spec
theorem list_keys_none : typeLookup (.type "list") "keys" = pure none := by rw [typeLookup_type, builtinLookup_eq_fast]; kernel_rfl
set_option maxRecDepth 100000 in
theorem keys_none {prog : Program} {w : World} {A : Around} {E : Value → Shared → Prop} {s : Shared} {a : Addr} {o : Obj} {xs : Array Value} {k : Nat} {Q : Option Value → Shared → Prop}
    (hx : s.heap.get? a = some o) (hc : o.cls = .type "list") (hdat : o.data = .seq xs k) (hd : o.dict = none) (hA : A.handled = none)
    (h : ∀ h' tk, (∀ b ob, s.heap.get? b = some ob → h'.get? b = some ob) → Q none { s with heap := h', toks := tk }) :
    wpAny (model prog w) A (getAttr? (.ref a) "keys") Q E s := by
  obtain ⟨c, dct, dat, sl⟩ := o
  simp only at hc hdat hd
  subst hc hdat hd
  obtain ⟨hp, g, d, tk, os⟩ := s
  have hT : ∀ tk', (⟨hp, g, d, tk', os⟩ : Shared).TypeIs (.ref a) "list" := fun _ => ⟨_, hx, rfl⟩
  have f1 := sub_AttributeError
  have f3 := F.slot_list_getattribute.lookup
  have f4 := F.slot_list_getattribute.bind (.ref a)
  have f5 := am_list_getattr_none
  unfold getAttr? getAttrBy? getAttrBy
  repeat (any_goals (first | assumption | exact hT _ | ((with_reducible show wpAny _ _ (call (Value.builtin "list.__getattribute__") _ _) _ _ _); refine call_meets F.slot_list_getattribute (hT _) am_entry_list_getattribute (F.args_list_getattribute_2 _ _) (meets_getattribute_miss_list a xs k sl _ _ list_keys_none (by decide +kernel)) ⟨hx, hA, fun h' tk' e hx' => ?_⟩) | wp_step))
  obtain ⟨t', u', he⟩ := hx'.there
  show wpAny _ _ (getattributeRaised _ _ _ _ _ _ _) _ _ _
  unfold getattributeRaised
  repeat (any_goals (first | assumption | wp_step))
  exact h _ _ hx'.keeps
theorem entry_dict_loop : entryFor table "dict.update.loop" = some Builtin.«dict.update.loop» := entryFor_of_tree (by kernel_rfl)
theorem plain_dict_loop : plainId "dict.update.loop" = true := by decide +kernel
noncomputable def idxPairs (vs : Nat → Value) (i : Nat) : List (Int × Value) := (List.range i).map fun (j : Nat) => (Int.ofNat j, vs j)
theorem idxPairs_succ (vs : Nat → Value) (i : Nat) : stored (idxPairs vs i) (i : Int) (vs i) = idxPairs vs (i + 1) := by
  unfold stored
  rw [if_neg]
  · simp [idxPairs, List.range_succ]
  · simp only [idxPairs, List.any_map, List.any_eq_true, Function.comp_apply, decide_eq_true_eq, not_exists, not_and, List.mem_range]
    intro j hj e
    have e' : Int.ofNat j = Int.ofNat i := e
    have := Int.ofNat.inj e'
    omega
section
variable {prog : Program} {w : World} {A : Around} {R : Result → Shared → Prop}
theorem loop_dict (hh : A.in1.handled = none) {d I l : Addr} {items : Array Value} {T : Nat → Addr} {vs : Nat → Value} {kt : Nat → Tok}
    (hit : ∀ j, j < items.size → items[j]? = some (.ref (T j))) (hT : ∀ j, j < items.size → T j ≠ I ∧ T j ≠ d) (hl : l ≠ I ∧ l ≠ d) (hd : d ≠ I) (hz : items.size ≤ sizeLine) :
    ∀ (k i : Nat) (s : Shared), items.size - i = k → i ≤ items.size → s.heap.IsListIter I l i → s.heap.IsList l items → (∀ j, j < items.size → s.heap.IsTuple (T j) #[.int (j : Int) (kt j), vs j]) →
      s.heap.DictOf (intKind prog w) d (idxPairs vs i) →
      (∀ h' tk, (∀ b o, b ≠ d → b ≠ I → s.heap.get? b = some o → h'.get? b = some o) → h'.DictOf (intKind prog w) d (idxPairs vs items.size) → R (.ok (.ret .none)) { s with heap := h', toks := tk }) →
      codeAny (model prog w) A (.builtin "dict.update.loop" ⟨[.ref d, .ref I, rawInt i, .none], []⟩) R s := by
  intro k
  induction k with
  | zero =>
    intro i s hk hi hI hL hTs hD hR
    have hin : i = items.size := by omega
    refine codeAny_builtin entry_dict_loop ?_
    rw [Around.under_plainId plain_dict_loop _]
    show wpAny _ A.in1 (pyNext (.ref I) >>= _) _ _ s
    refine wpAny_bind (wpAny_pyNext_list_end hh hI hL (by simp [hin]) fun h' he => ?_)
    show wpAny _ A.in1 (Builtin.Dict.addKeywords d [] >>= _) _ _ _
    exact wpAny_bind (wpAny_pure (wpAny_pure (hR h' s.toks (fun b o _ hb e => he b o hb e) (by rw [← hin]; exact hD.extBut he hd))))
  | succ k ih =>
    intro i s hk hi hI hL hTs hD hR
    have hlt : i < items.size := by omega
    refine codeAny_builtin entry_dict_loop ?_
    rw [Around.under_plainId plain_dict_loop _]
    show wpAny _ A.in1 (pyNext (.ref I) >>= _) _ _ s
    refine wpAny_bind (wpAny_pyNext_list_item hI hL (hit i hlt) fun h' hI' hs => ?_)
    have hTs' : ∀ j, j < items.size → h'.IsTuple (T j) #[.int (j : Int) (kt j), vs j] := fun j hj => (hTs j hj).extBut hs.extBut (hT j hj).1
    have hL' : h'.IsList l items := hL.extBut hs.extBut hl.1
    have hD' : h'.DictOf (intKind prog w) d (idxPairs vs i) := hD.extBut hs.extBut hd
    obtain ⟨oT, hoT, hcT, nT, hdT⟩ := hTs' i hlt
    dsimp only
    refine wpAny_bind (wpAny_holding (wpAny_bind (wpAny_tryCatch ?_)))
    unfold Builtin.Dict.pairItems
    refine wpAny_bind (wpAny_typeOf (T := "tuple") ⟨_, hoT, hcT⟩ ?_)
    rw [if_pos (by decide)]
    refine wpAny_bind (wpAny_seqItems hoT hdT (wpAny_pure ?_))
    show wpAny _ A.in1 (holding [Value.int (i : Int) (kt i), vs i] (dictSet d (Value.int (i : Int) (kt i)) (vs i))) _ _ _
    refine wpAny_holding (wpAny_dictSet_pairs (knd := intKind prog w) (k := (i : Int)) (intKind_is _ _ _ _) hD' (fun h'' hD'' hs'' => ?_) (by simp only [idxPairs, List.length_map, List.length_range]; omega))
    rw [idxPairs_succ] at hD''
    refine wpAny_pure ⟨plainId_quiet plain_dict_loop _, ?_⟩
    refine ih (i + 1) _ (by omega) hlt (hI'.extBut hs''.extBut (Ne.symm hd)) (hL'.extBut hs''.extBut hl.2) (fun j hj => (hTs' j hj).extBut hs''.extBut (hT j hj).2) hD'' fun h3 tk hk3 hd3 => ?_
    exact hR h3 tk (fun b o hb1 hb2 e => hk3 b o hb1 hb2 (hs''.extBut b o hb1 (hs.extBut b o hb2 e))) hd3
end
section
variable {prog : Program} {w : World} {A : Around} {E : Value → Shared → Prop} {s : Shared} {h₀ : Heap} {L : Addr} {m : Str → Option Value} {news : List (Addr × Obj)}
set_option maxHeartbeats 1000000 in
theorem call_dict_pairs (hh : A.handled = none) {l : Addr} {items : Array Value} {n : Nat} {T : Nat → Addr} {vs : Nat → Value} {kt : Nat → Tok} {Q : Value → Shared → Prop}
    (hl : s.heap.get? l = some (listOf items n)) (hit : ∀ j, j < items.size → items[j]? = some (.ref (T j))) (hTs : ∀ j, j < items.size → s.heap.IsTuple (T j) #[.int (j : Int) (kt j), vs j]) (hz : items.size ≤ sizeLine)
    (h : ∀ h' tk, (∀ b o, s.heap.get? b = some o → h'.get? b = some o) → h'.DictOf (intKind prog w) s.heap.objs.size (idxPairs vs items.size) → Q (.ref s.heap.objs.size) { s with heap := h', toks := tk }) :
    wpAny (model prog w) A (call (.type "dict") [.ref l]) Q E s := by
  refine callType_codes (Q₁ := fun obj s₁ => obj = .ref s.heap.objs.size ∧ s₁ = { s with heap := s.heap.push { cls := .type "dict", data := .dict #[] } }) F.kt_called_dict (F.kt_typeCall_dict_1 _) F.entry_dict_init (kt_code_dict_new _ ⟨rfl, rfl⟩) ?_
  rintro obj s₁ ⟨rfl, rfl⟩
  have hnew : (s.heap.push { cls := .type "dict", data := .dict #[] }).DictOf (intKind prog w) s.heap.objs.size [] := Heap.DictOf.new s.heap
  have hl' : (s.heap.push { cls := .type "dict", data := .dict #[] }).get? l = some (listOf items n) := Heap.get?_push_of_some _ hl
  have hls : l < s.heap.objs.size := Heap.lt_size hl
  refine ⟨hnew.typeIs, F.args_dict_init_2 _ _, ?_⟩
  unfold Builtin.«dict.__init__»
  refine wpAny_bind ?_
  unfold Builtin.Dict.selfAndRest
  refine wpAny_bind (wpAny_notOrdered_dict hnew.typeIs ?_)
  show wpAny _ _ (pure (s.heap.objs.size, [Value.ref l])) _ _ _
  refine wpAny_pure ?_
  show wpAny _ _ (Builtin.Dict.updateFrom "dict.__init__" s.heap.objs.size (.ref l) [] .none) _ _ _
  unfold Builtin.Dict.updateFrom
  refine wpAny_bind (wpAny_typeOf (T := "list") ⟨_, hl', rfl⟩ ?_)
  rw [if_pos (by decide)]
  refine wpAny_bind (keys_none hl' rfl rfl rfl ?_ fun h1 tk1 hk1 => ?_)
  · simp [hh]
  rw [if_pos (by rfl)]
  have hl1 : h1.IsList l items := ⟨_, hk1 _ _ hl', rfl, n, rfl⟩
  refine wpAny_bind (wpAny_rule (wpAny_bind (wpAny_pyIter_list (s := ⟨h1, _, _, _, _⟩) hl1 ?_)))
  have hkeep : ∀ b o, s.heap.get? b = some o → h1.get? b = some o := fun b o e => hk1 b o (Heap.get?_push_of_some _ e)
  have hnew1 : h1.DictOf (intKind prog w) s.heap.objs.size [] := let ⟨o, es, ep, ho, r⟩ := hnew; ⟨o, es, ep, hk1 _ _ ho, r⟩
  have hdlt : s.heap.objs.size < h1.objs.size := let ⟨_, _, _, ho, _⟩ := hnew1; Heap.lt_size ho
  have hTlt : ∀ j, j < items.size → T j < s.heap.objs.size := fun j hj => let ⟨_, ho, _⟩ := hTs j hj; Heap.lt_size ho
  refine wpAny_pure ⟨plainId_quiet plain_dict_loop _, ?_⟩
  refine loop_dict (A := A.in1) (by simp [hh]) (items := items) (T := T) (vs := vs) (kt := kt) (d := s.heap.objs.size) (I := h1.objs.size) (l := l) hit (fun j hj => ⟨Nat.ne_of_lt (Nat.lt_trans (hTlt j hj) hdlt), Nat.ne_of_lt (hTlt j hj)⟩) ⟨Nat.ne_of_lt (Nat.lt_trans hls hdlt), Nat.ne_of_lt hls⟩ (Nat.ne_of_lt hdlt) hz (items.size - 0) 0 _ rfl (Nat.zero_le _)
    ⟨_, Heap.get?_push_size _ rfl, rfl, rfl⟩ (hl1.push _) (fun j hj => ?_) (hnew1.push _) fun h' tk hk hD => ?_
  · obtain ⟨o, ho, r⟩ := hTs j hj
    exact ⟨o, Heap.get?_push_of_some _ (hkeep _ _ ho), r⟩
  · exact ⟨rfl, h _ _ (fun b o e => hk b o (Nat.ne_of_lt (Heap.lt_size e)) (Nat.ne_of_lt (Nat.lt_trans (Heap.lt_size e) hdlt)) (Heap.get?_push_of_some _ (hkeep _ _ e))) hD⟩
end
end Mine
end
section
namespace Mine
section
noncomputable def mix (prog : Program) (w : World) : KeyKind prog w (Int ⊕ Str) := KeyKind.mk
  (fun k v => match k with | .inl i => Value.isInt i v | .inr x => Value.isStrOf x v)
  (fun k => match k with | .inl i => hashInt i | .inr x => hashStr w x)
  (fun v a b ha hb => by
    rcases a with a | a <;> rcases b with b | b
    · exact congrArg _ (Value.isInt_inj v a b ha hb)
    · obtain ⟨t, rfl⟩ := Value.isInt_shape ha; simp [Value.isStrOf] at hb
    · obtain ⟨t, rfl⟩ := Value.isStrOf_shape ha; simp [Value.isInt] at hb
    · exact congrArg _ (Value.isStrOf_inj v a b ha hb))
  (fun k v h => by
    rcases k with k | k
    · exact (intKind prog w).byValue k v h
    · exact (strKind prog w).byValue k v h)
  (fun {A E s k v Q} hv h => by
    rcases k with k | k
    · exact (intKind prog w).pyHash (k := k) hv h
    · exact (strKind prog w).pyHash (k := k) hv h)
  (fun {A E s a b u v Q} hu hv h => by
    rcases a with a | a <;> rcases b with b | b
    · exact (intKind prog w).eqBool (a := a) (b := b) hu hv (by simpa using h)
    · obtain ⟨t, rfl⟩ := Value.isInt_shape hu
      obtain ⟨t', rfl⟩ := Value.isStrOf_shape hv
      exact SeqAt.EqAt.int_str a t b t' prog w E Q (by simpa using h)
    · obtain ⟨t, rfl⟩ := Value.isStrOf_shape hu
      obtain ⟨t', rfl⟩ := Value.isInt_shape hv
      exact SeqAt.EqAt.str_int a t b t' prog w E Q (by simpa using h)
    · exact (strKind prog w).eqBool (a := a) (b := b) hu hv (by simpa using h))
  (fun k x t v h => by
    rcases k with k | k
    · simp [Value.isInt] at h
    · obtain ⟨u, hu⟩ := Value.isStrOf_shape h
      injection hu with hx
      subst hx
      cases v <;> rfl)
theorem mix_int (prog : Program) (w : World) (k : Int) (t : Tok) : (mix prog w).is (.inl k) (.int k t) = true := intKind_is prog w k t
theorem mix_str (prog : Program) (w : World) (k : Str) (t : Tok) : (mix prog w).is (.inr k) (.str k t) = true := strKind_is prog w k t
noncomputable def mixI (kvs : List (Int × Value)) : List ((Int ⊕ Str) × Value) := kvs.map fun p => (.inl p.1, p.2)
noncomputable def mixS (kvs : List (Str × Value)) : List ((Int ⊕ Str) × Value) := kvs.map fun p => (.inr p.1, p.2)
theorem nodup_map {α β : Type} {f : α → β} (hf : ∀ a b, f a = f b → a = b) : ∀ {l : List α}, l.Nodup → (l.map f).Nodup
  | [], _ => List.nodup_nil
  | a :: l, h => by
    rw [List.nodup_cons] at h
    rw [List.map_cons, List.nodup_cons]
    refine ⟨fun hm => ?_, nodup_map hf h.2⟩
    obtain ⟨b, hb, e⟩ := List.mem_map.mp hm
    exact h.1 (hf _ _ e ▸ hb)
theorem mixI_of {prog : Program} {w : World} {o : Obj} {kvs : List (Int × Value)} (h : o.IsDictOf (intKind prog w) kvs) : o.IsDictOf (mix prog w) (mixI kvs) := by
  obtain ⟨es, ep, h1, h2, h3, h4, h5⟩ := h
  refine ⟨es, ep, h1, h2, fun e he => ?_, ?_, ?_⟩
  · obtain ⟨k, a, b⟩ := h3 e he
    exact ⟨.inl k, a, b⟩
  · generalize es.toList = l at h4
    clear h5
    induction h4 with
    | nil => exact .nil
    | cons a b _ ih => exact .cons a b ih
  · rw [mixI, List.map_map]
    have := nodup_map (f := (Sum.inl : Int → Int ⊕ Str)) (fun _ _ e => Sum.inl.inj e) h5
    rwa [List.map_map] at this
theorem mixS_of {prog : Program} {w : World} {o : Obj} {kvs : List (Str × Value)} (h : o.IsDictOf (strKind prog w) kvs) : o.IsDictOf (mix prog w) (mixS kvs) := by
  obtain ⟨es, ep, h1, h2, h3, h4, h5⟩ := h
  refine ⟨es, ep, h1, h2, fun e he => ?_, ?_, ?_⟩
  · obtain ⟨k, a, b⟩ := h3 e he
    exact ⟨.inr k, a, b⟩
  · generalize es.toList = l at h4
    clear h5
    induction h4 with
    | nil => exact .nil
    | cons a b _ ih => exact .cons a b ih
  · rw [mixS, List.map_map]
    have := nodup_map (f := (Sum.inr : Str → Int ⊕ Str)) (fun _ _ e => Sum.inr.inj e) h5
    rwa [List.map_map] at this
end
end Mine
end
section
namespace Mine
noncomputable abbrev tup (its : Array Value) (n : Nat) : Obj := { cls := .type "tuple", data := .seq its n }
section
variable {prog : Program} {w : World} {A : Around} {E : Value → Shared → Prop} {s : Shared} {h₀ h : Heap} {L : Addr} {m : Str → Option Value} {news : List (Addr × Obj)}
theorem mk_str {vs : List (Value × Value)} {P : Heap → Prop} (F : Fr h₀ L h m) (N : News h₀ L h news) (hbig : h₀.NoLimit) (hk : allStrKeys vs = true) (hn : ((strPairs vs).map (·.1)).Nodup)
    (k : ∀ h' o, Fr h₀ L h' m → News h₀ L h' ((h.objs.size, o) :: news) → (∀ p ∈ news, p.1 < h.objs.size) → (h.objs.size == sysModules) = false → o.IsDictOf (mix prog w) (mixS (strPairs vs)) → P h') :
    ∃ kvs, Carries (strKind prog w) vs kvs ∧ (h.push { cls := .type "dict", data := .dict #[] }).DictOf (strKind prog w) h.objs.size [] ∧
      ∀ h', h'.DictOf (strKind prog w) h.objs.size (merged [] kvs) → Heap.SameBut h.objs.size (h.push { cls := .type "dict", data := .dict #[] }) h' → P h' :=
  made_str F N hk hn fun h' o F' N' hd => k h' o F' N' (fun p hp => Heap.lt_size (N p hp).1) (F.notModules (modules_low hbig)) (mixS_of hd)
theorem kdict_end {n : Nat} {vs : Nat → Value} {kvs : List ((Int ⊕ Str) × Value)} {Q : Value → Shared → Prop} (F : Fr h₀ L s.heap m) (N : News h₀ L s.heap news) (hbig : h₀.NoLimit) 
    (k : ∀ h' tk o, Fr h₀ L h' m → News h₀ L h' ((s.heap.objs.size, o) :: news) → (∀ p ∈ news, p.1 < s.heap.objs.size) → (s.heap.objs.size == sysModules) = false → o.IsDictOf (mix prog w) kvs → Q (.ref s.heap.objs.size) { s with heap := h', toks := tk })
    (e : mixI (idxPairs vs n) = kvs := by rfl) :
    ∀ h' tk, (∀ b o, s.heap.get? b = some o → h'.get? b = some o) → h'.DictOf (intKind prog w) s.heap.objs.size (idxPairs vs n) → Q (.ref s.heap.objs.size) { s with heap := h', toks := tk } := fun h' tk hk hD => by
  obtain ⟨o, ho, hd⟩ := Heap.dictOf_iff.mp hD
  have hLlt : L < s.heap.objs.size := by
    obtain ⟨oL, _, _, hL, _⟩ := F.ns
    exact Heap.lt_size hL
  refine k h' tk o ⟨F.ns.at' fun o' e => hk L o' e, fun b o' e => hk b o' (F.keep b o' e), F.above⟩ (fun p hp => ?_) (fun p hp => Heap.lt_size (N p hp).1) (F.notModules (modules_low hbig)) (e ▸ mixI_of hd)
  rcases List.mem_cons.mp hp with rfl | hp
  · refine ⟨ho, Nat.ne_of_gt hLlt, ?_⟩
    cases hq : h₀.get? s.heap.objs.size with
    | none => rfl
    | some o' => exact absurd (Heap.lt_size (F.keep _ _ hq)) (Nat.lt_irrefl _)
  · exact ⟨hk _ _ (N p hp).1, (N p hp).2⟩
end
end Mine
end
section
namespace Mine
theorem item_listX {prog : Program} {w : World} {A : Around} {E : Value → Shared → Prop} {s : Shared} {value slice : PySem.Expr} {h₀ : Heap} {L l : Addr} {news : List (Addr × Obj)} {its : Array Value} {n : Nat} {k : Int} {u : Tok} {v : Value} {Q : Value → Shared → Prop}
    (N : News h₀ L s.heap news) (hm : (l, listOf its n) ∈ news) (h0 : 0 ≤ k) (hk : k < 2 ^ 62) (e : its[k.toNat]? = some v) (h : Q v s)
    (hs : subscripted slice false (.ref l) (.int k u) = operate [.ref l, .int k u] (getItem (.ref l) (.int k u)) := by with_unfolding_all rfl) :
    wpAny (model prog w) A (subscriptTail value slice (.ref l) (.int k u)) Q E s := by
  have hl : s.heap.IsList l its := ⟨_, N.get hm, rfl, _, rfl⟩
  exact tail_any hl.typeIs slot_list_getitem.lookup (wpAny_getItem_list hl h0 (by omega) e h) hs
theorem item_lst0 {prog : Program} {w : World} {A : Around} {E : Value → Shared → Prop} {s : Shared} {value slice : PySem.Expr} {h₀ : Heap} {L l : Addr} {news : List (Addr × Obj)} {ys : List Value} {k : Int} {u : Tok} {v : Value} {Q : Value → Shared → Prop}
    (N : News h₀ L s.heap news) (hm : (l, LCg.lst ys) ∈ news) (h0 : 0 ≤ k) (hk : k < 2 ^ 62) (e : ys[k.toNat]? = some v) (h : Q v s)
    (hs : subscripted slice false (.ref l) (.int k u) = operate [.ref l, .int k u] (getItem (.ref l) (.int k u)) := by with_unfolding_all rfl) :
    wpAny (model prog w) A (subscriptTail value slice (.ref l) (.int k u)) Q E s :=
  item_listX N hm h0 hk (by simpa using e) h hs
end Mine
end
section
namespace Mine
section
variable {h₀ h : Heap} {L : Addr} {q : Addr × Obj} {r t1 t2 t3 l : List (Addr × Obj)}
theorem asc1 (N : News h₀ L h (q :: ((r ++ t1) ++ l))) : News h₀ L h (q :: (r ++ (t1 ++ l))) := by rwa [List.append_assoc] at N
theorem allLt_app {d : Addr} {l r : List (Addr × Obj)} : AllLt d (l ++ r) ↔ (AllLt d l ∧ AllLt d r) := ⟨fun h => ⟨allLt_of fun p hp => allLt_get h p (List.mem_append_left _ hp), allLt_of fun p hp => allLt_get h p (List.mem_append_right _ hp)⟩, fun h => allLt_append h.1 h.2⟩
end
theorem alt_find {d x : Addr} {A : Prop} {G : List (Addr × Obj)} (h : x < d ∧ A) (k : x < d ∧ A → AllLt d G) : AllLt d G := k h
theorem alt_list {p : Addr × Obj} {t l : List (Addr × Obj)} {G : List (Addr × Obj)} (hp : p ∈ t) (h : ∀ p ∈ t, AllLt p.1 l) (k : AllLt p.1 l → AllLt p.1 G) : AllLt p.1 G := k (h p hp)
section
variable {d x : Addr} {o o' : Obj} {G r t1 t2 t3 : List (Addr × Obj)}
theorem alt_skip {A B G : Prop} (k : B → G) : A ∧ B → G := fun z => k z.2
theorem alt_skipL {y : Addr × Obj} {l G : List (Addr × Obj)} (k : AllLt d l → AllLt d G) : AllLt d (y :: l) → AllLt d G := fun z => k z.2
theorem allLt_l {l r : List (Addr × Obj)} (h : AllLt d (l ++ r)) : AllLt d l := (allLt_app.mp h).1
theorem alt0 (z : x < d ∧ AllLt d r) : AllLt d ((x, o) :: r) := z
theorem alt0L (z : AllLt d ((x, o') :: r)) : AllLt d ((x, o) :: r) := z
end
noncomputable def RG (w : World) (n : List (Addr × Obj)) (v : Value) : Prop := ∃ d, Rd w n v d ∧ Good d
theorem RG.mono {w : World} {n n' : List (Addr × Obj)} {v : Value} (h : RG w n v) (s : ∀ p ∈ n, p ∈ n') : RG w n' v := let ⟨d, a, b⟩ := h; ⟨d, a.mono s, b⟩
noncomputable def RGs (w : World) (n : List (Addr × Obj)) (vs : List Value) : Prop := ∀ v ∈ vs, RG w n v
theorem RGs.nil {w : World} {n : List (Addr × Obj)} : RGs w n [] := fun _ h => nomatch h
theorem RGs.cons {w : World} {n : List (Addr × Obj)} {v : Value} {vs : List Value} (a : RG w n v) (b : RGs w n vs) : RGs w n (v :: vs) := fun x h => (List.mem_cons.mp h).elim (fun e => e ▸ a) (b x)
theorem RGs.mono {w : World} {n n' : List (Addr × Obj)} {vs : List Value} (h : RGs w n vs) (s : ∀ p ∈ n, p ∈ n') : RGs w n' vs := fun v hv => (h v hv).mono s
noncomputable def idxL : Nat → List Value → List ((Int ⊕ Str) × Value)
  | _, [] => []
  | k, v :: r => (.inl (k : Int), v) :: idxL (k + 1) r
inductive VF (w : World) (n : List (Addr × Obj)) : Value → List ((Int ⊕ Str) × Value) → Prop
  | int (i : Int) (t : Tok) : VF w n (.int i t) []
  | bool (b : Bool) : VF w n (.bool b) []
  | nothing : VF w n (.ref 98) []
  | ref {a k t x} : (a, tup #[.str (Str.ofString "ref") t, x] k) ∈ n → RG w n x → VF w n (.ref a) []
  | box {a k t x} : (a, tup #[.str (Str.ofString "box") t, x] k) ∈ n → RG w n x → VF w n (.ref a) [(.inr (Str.ofString "*"), x)]
  | flds {a k t p kp its} : (a, tup #[.str (Str.ofString "fields") t, .ref p] k) ∈ n → (p, tup its.toArray kp) ∈ n → its.length ≤ 3 → RGs w n its → VF w n (.ref a) (idxL 0 its)
  | vrnt {a k t y ty p kp its} : (a, tup #[.str (Str.ofString "variant") t, .int y ty, .ref p] k) ∈ n → (p, tup its.toArray kp) ∈ n → its.length ≤ 3 → RGs w n its → VF w n (.ref a) (idxL 0 its)
theorem pick_6_2 {h₀ h : Heap} {L : Addr} {a0 a1 a2 a3 a4 a5 b0 b1 q : Addr × Obj} {r : List (Addr × Obj)} (N : News h₀ L h (a0 :: a1 :: a2 :: a3 :: a4 :: a5 :: b0 :: b1 :: q :: r)) : News h₀ L h (q :: (r ++ [a0, a1, a2, a3, a4, a5])) := news_sub N fun p hp => by
  simp only [List.mem_cons, List.mem_append, List.not_mem_nil, or_false] at hp ⊢
  rcases hp with hp | hp | hp | hp | hp | hp | hp | hp <;> simp only [hp, true_or, or_true]
theorem pick_3_2 {h₀ h : Heap} {L : Addr} {a0 a1 a2 b0 b1 q : Addr × Obj} {r : List (Addr × Obj)} (N : News h₀ L h (a0 :: a1 :: a2 :: b0 :: b1 :: q :: r)) : News h₀ L h (q :: (r ++ [a0, a1, a2])) := news_sub N fun p hp => by
  simp only [List.mem_cons, List.mem_append, List.not_mem_nil, or_false] at hp ⊢
  rcases hp with hp | hp | hp | hp | hp <;> simp only [hp, true_or, or_true]
theorem pick_4_4 {h₀ h : Heap} {L : Addr} {a0 a1 a2 a3 b0 b1 b2 b3 q : Addr × Obj} {r : List (Addr × Obj)} (N : News h₀ L h (a0 :: a1 :: a2 :: a3 :: b0 :: b1 :: b2 :: b3 :: q :: r)) : News h₀ L h (q :: (r ++ [a0, a1, a2, a3])) := news_sub N fun p hp => by
  simp only [List.mem_cons, List.mem_append, List.not_mem_nil, or_false] at hp ⊢
  rcases hp with hp | hp | hp | hp | hp | hp <;> simp only [hp, true_or, or_true]
end Mine
end
section
namespace Mine
open PySem.Spec PySem.Calls
section
variable {prog : Program} {w : World} {A : Around} {E : Value → Shared → Prop} {s : Shared}
theorem adj_upto (b n : Nat) (hb : b ≤ n) : Builtin.Slice.sliceAdjust none (some (b : Int)) 1 (n : Int) = (0, (b : Int)) := by
  unfold Builtin.Slice.sliceAdjust
  have h1 : ¬ ((1 : Int) < 0) := by omega
  have h2 : ¬ ((b : Int) < 0) := by omega
  simp only [h1, h2, if_false]
  congr 1
  omega
theorem adj_neg1 (n : Nat) (hb : 1 ≤ n) : Builtin.Slice.sliceAdjust none (some (-1)) 1 (n : Int) = (0, ((n - 1 : Nat) : Int)) := by
  unfold Builtin.Slice.sliceAdjust
  have h1 : ¬ ((1 : Int) < 0) := by omega
  have h2 : ((-1 : Int) < 0) := by omega
  simp only [h1, h2, if_false, if_true]
  congr 1
  omega
theorem places_upto (b : Nat) : Builtin.Slice.slicePlaces 0 (b : Int) 1 = b := by
  unfold Builtin.Slice.slicePlaces
  have h1 : (1 : Int) > 0 := by omega
  simp only [h1, if_true, Int.ediv_one]
  split <;> omega
theorem applied_upto {sl : Addr} {b n : Nat} {y : Int} {u : Tok} {Q : Int × Int × Nat → Shared → Prop} (hs : s.heap.IsSliceOf sl .none (.int y u) .none) (hadj : Builtin.Slice.sliceAdjust none (some y) 1 (n : Int) = (0, (b : Int))) (h : Q (0, 1, b) s) :
    wpAny (model prog w) A (Builtin.Slice.sliceApplied (.ref sl) (pure (n : Int))) Q E s := by
  obtain ⟨os, hos, hcs, hds⟩ := id hs
  unfold Builtin.Slice.sliceApplied Builtin.Slice.sliceFields
  refine wpAny_bind (wpAny_bind (wpAny_field hos hds (x := .none) rfl (wpAny_bind (wpAny_field hos hds (x := .int y u) rfl (wpAny_bind (wpAny_field hos hds (x := .none) rfl (wpAny_pure ?_)))))))
  refine wpAny_bind (slicePart_none ?_)
  show wpAny _ _ (if ((1 : Int) == 0) = true then _ else _) _ _ s
  rw [if_neg (by decide)]
  refine wpAny_bind (slicePart_none (wpAny_bind (slicePart_int (wpAny_bind (wpAny_pure ?_)))))
  show wpAny _ _ (match Builtin.Slice.sliceAdjust none (some y) 1 (n : Int) with | (lo, hi) => pure (lo, (1 : Int), Builtin.Slice.slicePlaces lo hi 1)) _ _ s
  rw [hadj]
  show wpAny _ _ (pure ((0 : Int), (1 : Int), Builtin.Slice.slicePlaces 0 (b : Int) 1)) _ _ s
  rw [places_upto b]
  exact wpAny_pure h
theorem pick_upto (xs : Array Value) (b : Nat) : ((List.range b).filterMap fun (k : Nat) => xs[((0 : Int) + (k : Int) * 1).toNat]?).toArray = (xs.toList.take b).toArray := by
  have e : (fun (k : Nat) => xs[((0 : Int) + (k : Int) * 1).toNat]?) = fun k => xs[k]? := by
    funext k
    have : ((0 : Int) + (k : Int) * 1).toNat = k := by omega
    rw [this]
  rw [e]
  have := pick_run xs 0 b
  rw [List.filterMap_map] at this
  have e2 : ((fun x => xs[x]?) ∘ fun x => 0 + x) = fun k => xs[k]? := by funext k; simp
  rw [e2] at this
  rw [this, List.drop_zero]
theorem getItem_upto {t sl : Addr} {items : Array Value} {b : Nat} {y : Int} {u : Tok} {Q : Value → Shared → Prop} (ht : IsTup s.heap t items) (hs : s.heap.IsSliceOf sl .none (.int y u) .none)
    (hadj : Builtin.Slice.sliceAdjust none (some y) 1 (items.size : Int) = (0, (b : Int))) (hb : b < items.size)
    (h : Q (.ref s.heap.objs.size) { s with heap := s.heap.push { cls := .type "tuple", data := .seq (items.toList.take b).toArray } })
    (hsz : items.size ≤ sizeLine) : wpAny (model prog w) A (getItem (.ref t) (.ref sl)) Q E s := by
  have hdrop : sizeOk (.seq (items.toList.take b).toArray) := by
    show (items.toList.take b).toArray.size ≤ sizeLine
    rw [List.size_toArray, List.length_take, Array.length_toList]
    omega
  obtain ⟨os, hos, hcs, hds⟩ := id hs
  have hTs : s.TypeIs (.ref sl) "slice" := ⟨os, hos, hcs⟩
  unfold getItem
  try with_reducible refine wpAny_holding ?_
  first | refine wpAny_bind (wpAny_pure ?_) | skip
  refine wpAny_bind (wpAny_sequenceKey ht.typeIs (by decide) ?_)
  refine wpAny_bind (wpAny_callSpecial?_slot (name := Str.ofString "__getitem__") ht.typeIs slot_tuple_getitem
    (wpAny_call_entry slot_tuple_getitem ht.typeIs entry_tuple_getitem ?_ (args_tuple_getitem _ _)))
  show wpAny _ _ (Builtin.Tuple.tupleItemsOf (.ref t) >>= _) _ _ s
  refine wpAny_bind (tupleItemsOf_ ht ?_)
  refine wpAny_bind (wpAny_typeOf hTs ?_)
  rw [if_pos (by decide)]
  refine wpAny_bind (applied_upto hs hadj ?_)
  have hno : ¬ (((0 : Int) == 0 && (1 : Int) == 1 && b == items.size) = true) := by
    have : (b == items.size) = false := by rw [beq_eq_false_iff_ne]; omega
    rw [this]; simp
  show wpAny _ _ (if ((0 : Int) == 0 && (1 : Int) == 1 && b == items.size) = true then _ else _) _ _ s
  rw [if_neg hno, pick_upto items b]
  first
    | exact wpAny_bind (m := Builtin.Tuple.tupleExact _) (wpAny_newObj_type (wpAny_pure ⟨_, rfl, wpAny_pure h⟩) hdrop)
    | exact wpAny_bind (m := Builtin.Tuple.tupleExact _) (wpAny_newObj_type (wpAny_bind (wpAny_pure (wpAny_pure ⟨_, rfl, wpAny_pure h⟩))) hdrop)
    | exact wpAny_bind (wpAny_bind (m := Builtin.Tuple.tupleExact _) (wpAny_newObj_type (wpAny_pure (wpAny_pure ⟨_, rfl, wpAny_pure h⟩)) hdrop))
    | exact wpAny_bind (wpAny_bind (m := Builtin.Tuple.tupleExact _) (wpAny_newObj_type (wpAny_pure ⟨_, rfl, wpAny_pure h⟩) hdrop))
end
section
variable {prog : Program} {w : World} {A : Around} {E : Value → Shared → Prop} {s : Shared} {h₀ : Heap} {L : Addr} {m : Str → Option Value} {news : List (Addr × Obj)}
theorem slice_upto {value slice : PySem.Expr} {t : Addr} {items : Array Value} {n b : Nat} {y : Int} {u : Tok} {Q : Value → Shared → Prop}
    (F : Fr h₀ L s.heap m) (N : News h₀ L s.heap news) (hm : (t, tup items n) ∈ news) (hadj : Builtin.Slice.sliceAdjust none (some y) 1 (items.size : Int) = (0, (b : Int))) (hb : b < items.size) (hz : items.size ≤ 4)
    (h : ∀ D h', Fr h₀ L h' m → News h₀ L h' ((D, tup (items.toList.take b).toArray 0) :: news) → (∀ p ∈ news, p.1 < D) → Q (.ref D) { s with heap := h' })
    (hs : subscripted slice false (.ref t) (.ref s.heap.objs.size) = operate [.ref s.heap.objs.size, .ref t] (getItem (.ref t) (.ref s.heap.objs.size)) := by with_unfolding_all rfl)
    (hg : ∀ r, letTemporaryGo value (.ref t) r = pure () := by intro _; with_unfolding_all rfl) :
    wpAny (model prog w) A (subscriptTail value slice (.ref t) (.ref s.heap.objs.size)) Q E { s with heap := s.heap.push { cls := .type "slice", data := .fields #[.none, .int y u, .none] } } := by
  have ht : IsTup s.heap t items := ⟨_, N.get hm, rfl, _, rfl⟩
  have ht' : IsTup (s.heap.push { cls := .type "slice", data := .fields #[.none, .int y u, .none] }) t items := ht.keeps fun _ _ e => Heap.get?_push_of_some _ e
  refine subscriptTail_ops (s := { s with heap := s.heap.push { cls := .type "slice", data := .fields #[.none, .int y u, .none] } }) ht'.typeIs slot_tuple_getitem.lookup
    (getItem_upto ht' (Heap.IsSliceOf.new ..) hadj hb ?_ (Nat.le_trans hz (by decide))) hs hg
  have N1 := News.push (F.push { cls := .type "slice", data := .fields #[.none, .int y u, .none] }) (N.grown fun _ _ e => Heap.get?_push_of_some _ e) { cls := .type "tuple", data := .seq (items.toList.take b).toArray }
  rw [Heap.size_push] at N1
  show Q (.ref (s.heap.push _).objs.size) _
  rw [Heap.size_push]
  exact h _ _ ((F.push _).push _) N1 fun p hp => Nat.lt_succ_of_lt (Heap.lt_size (N p hp).1)
theorem slice_from {value slice : PySem.Expr} {t : Addr} {items : Array Value} {n a : Nat} {y : Int} {u : Tok} {Q : Value → Shared → Prop}
    (F : Fr h₀ L s.heap m) (N : News h₀ L s.heap news) (hm : (t, tup items n) ∈ news) (hy : y = (a : Int)) (h1 : 1 ≤ a) (ha : a ≤ items.size) (hz : items.size ≤ 4)
    (h : ∀ D h', Fr h₀ L h' m → News h₀ L h' ((D, tup (items.toList.drop a).toArray 0) :: news) → (∀ p ∈ news, p.1 < D) → Q (.ref D) { s with heap := h' })
    (hs : subscripted slice false (.ref t) (.ref s.heap.objs.size) = operate [.ref s.heap.objs.size, .ref t] (getItem (.ref t) (.ref s.heap.objs.size)) := by with_unfolding_all rfl)
    (hg : ∀ r, letTemporaryGo value (.ref t) r = pure () := by intro _; with_unfolding_all rfl) :
    wpAny (model prog w) A (subscriptTail value slice (.ref t) (.ref s.heap.objs.size)) Q E { s with heap := s.heap.push { cls := .type "slice", data := .fields #[.int y u, .none, .none] } } := by
  subst hy
  exact slice_tuple_from F N ⟨_, N.get hm, rfl, _, rfl⟩ h1 ha (fun h' F' N' => h _ h' F' N' fun p hp => Nat.lt_succ_of_lt (Heap.lt_size (N p hp).1)) hs hg (Nat.le_trans hz (by decide))
theorem add_tups {l b : Addr} {xs ys : Array Value} {n1 n2 : Nat} {Q : Value → Shared → Prop} (F : Fr h₀ L s.heap m) (N : News h₀ L s.heap news) (h1 : (l, tup xs n1) ∈ news) (h2 : (b, tup ys n2) ∈ news) (hz : xs.size + ys.size ≤ 300)
    (h : ∀ T n h' tl, Fr h₀ L h' m → News h₀ L h' (tl ++ news) → (T, tup (xs ++ ys) n) ∈ tl ++ news → (∀ p ∈ tl, AllLt p.1 news) → (T = l ∨ T = b ∨ AllLt T news) → Q (.ref T) { s with heap := h' }) :
    wpAny (model prog w) A (binaryOp .Add (.ref l) (.ref b)) Q E s := by
  have ho := N.get h1
  have ho2 := N.get h2
  have hsz : xs.size + ys.size ≤ sizeLine := Nat.le_trans hz (by decide)
  by_cases c0 : xs.isEmpty = true
  · refine concat_meets ⟨_, ho, rfl⟩ ⟨_, ho2, rfl⟩ noFill_tuple_add seq_tuple_add PySem.F.slot_tuple_add PySem.F.entry_tuple_add (PySem.F.args_tuple_add_2 _ _) (tuple_addW0 l b xs ys n1 n2 none none #[] #[] c0) ⟨ho, ho2, ?_⟩
    have e : xs = #[] := by simpa using c0
    subst e
    exact h b n2 s.heap [] F N (by simpa using h2) (fun _ z => nomatch z) (.inr (.inl rfl))
  · by_cases c1 : ys.isEmpty = true
    · refine concat_meets ⟨_, ho, rfl⟩ ⟨_, ho2, rfl⟩ noFill_tuple_add seq_tuple_add PySem.F.slot_tuple_add PySem.F.entry_tuple_add (PySem.F.args_tuple_add_2 _ _) (tuple_addW1 l b xs ys n1 n2 none none #[] #[] c0 c1) ⟨ho, ho2, ?_⟩
      have e : ys = #[] := by simpa using c1
      subst e
      exact h l n1 s.heap [] F N (by simpa using h1) (fun _ z => nomatch z) (.inl rfl)
    · refine concat_meets ⟨_, ho, rfl⟩ ⟨_, ho2, rfl⟩ noFill_tuple_add seq_tuple_add PySem.F.slot_tuple_add PySem.F.entry_tuple_add (PySem.F.args_tuple_add_2 _ _) (tuple_addW2 l b xs ys n1 n2 none none #[] #[] c0 c1 hsz) ⟨ho, ho2, ?_⟩
      exact h s.heap.objs.size 0 _ [_] (F.push _) (News.push F N _) (.head _) (fun p hp => by
        rcases List.mem_cons.mp hp with rfl | hp
        · exact allLt_of fun q hq => Heap.lt_size (N q hq).1
        · nomatch hp) (.inr (.inr (allLt_of fun q hq => Heap.lt_size (N q hq).1)))
end
theorem item_tupX {prog : Program} {w : World} {A : Around} {E : Value → Shared → Prop} {s : Shared} {value slice : PySem.Expr} {h₀ : Heap} {L l : Addr} {news : List (Addr × Obj)} {its : Array Value} {n : Nat} {k : Int} {u : Tok} {j : Nat} {v : Value} {Q : Value → Shared → Prop}
    (N : News h₀ L s.heap news) (hm : (l, tup its n) ∈ news) (h0 : -(2 ^ 63) ≤ k) (hk : k < 2 ^ 63) (hj : seqIndex? k its.size = some j) (e : its[j]? = some v) (h : Q v s)
    (hs : subscripted slice false (.ref l) (.int k u) = operate [.ref l, .int k u] (getItem (.ref l) (.int k u)) := by with_unfolding_all rfl) :
    wpAny (model prog w) A (subscriptTail value slice (.ref l) (.int k u)) Q E s := by
  have hl : IsTup s.heap l its := ⟨_, N.get hm, rfl, _, rfl⟩
  exact tail_any hl.typeIs slot_tuple_getitem.lookup (getItem_tuple hl h0 hk hj e h) hs
theorem item_last2 {prog : Program} {w : World} {A : Around} {E : Value → Shared → Prop} {s : Shared} {value slice : PySem.Expr} {h₀ : Heap} {L l : Addr} {news : List (Addr × Obj)} {n : Nat} {u : Tok} {v0 v : Value} {Q : Value → Shared → Prop}
    (N : News h₀ L s.heap news) (hm : (l, tup #[v0, v] n) ∈ news) (h : Q v s)
    (hs : subscripted slice false (.ref l) (.int (-1) u) = operate [.ref l, .int (-1) u] (getItem (.ref l) (.int (-1) u)) := by with_unfolding_all rfl) :
    wpAny (model prog w) A (subscriptTail value slice (.ref l) (.int (-1) u)) Q E s := item_tupX N hm (by decide) (by decide) (by rfl) (by rfl) h hs
theorem item_last3 {prog : Program} {w : World} {A : Around} {E : Value → Shared → Prop} {s : Shared} {value slice : PySem.Expr} {h₀ : Heap} {L l : Addr} {news : List (Addr × Obj)} {n : Nat} {u : Tok} {v0 v1 v : Value} {Q : Value → Shared → Prop}
    (N : News h₀ L s.heap news) (hm : (l, tup #[v0, v1, v] n) ∈ news) (h : Q v s)
    (hs : subscripted slice false (.ref l) (.int (-1) u) = operate [.ref l, .int (-1) u] (getItem (.ref l) (.int (-1) u)) := by with_unfolding_all rfl) :
    wpAny (model prog w) A (subscriptTail value slice (.ref l) (.int (-1) u)) Q E s := item_tupX N hm (by decide) (by decide) (by rfl) (by rfl) h hs
theorem len_tupL {prog : Program} {w : World} {A : Around} {E : Value → Shared → Prop} {s : Shared} {h₀ : Heap} {L p : Addr} {news : List (Addr × Obj)} {its : List Value} {n : Nat} {Q : Value → Shared → Prop}
    (N : News h₀ L s.heap news) (hm : (p, tup its.toArray n) ∈ news) (hl : its.length ≤ 3) (h : Q (.int its.length (s.toks + 1)) { s with toks := s.toks + 1 + 1 }) :
    wpAny (model prog w) A (call (.builtin "len") [.ref p]) Q E s :=
  len_tuple (items := its.toArray) ⟨_, N.get hm, rfl, _, rfl⟩ (by simp only [List.size_toArray]; omega) (by simpa using h)
theorem item_tupI {prog : Program} {w : World} {A : Around} {E : Value → Shared → Prop} {s : Shared} {value slice : PySem.Expr} {h₀ : Heap} {L l : Addr} {news : List (Addr × Obj)} {its : List Value} {n : Nat} {k : Int} {u : Tok} {v : Value} {Q : Value → Shared → Prop}
    (N : News h₀ L s.heap news) (hm : (l, tup its.toArray n) ∈ news) (h0 : 0 ≤ k) (hl : its.length ≤ 3) (e : its[k.toNat]? = some v) (h : Q v s)
    (hs : subscripted slice false (.ref l) (.int k u) = operate [.ref l, .int k u] (getItem (.ref l) (.int k u)) := by with_unfolding_all rfl) :
    wpAny (model prog w) A (subscriptTail value slice (.ref l) (.int k u)) Q E s := by
  have hlt : k.toNat < its.length := (List.getElem?_eq_some_iff.mp e).1
  refine item_tupX (j := k.toNat) N hm (by omega) (by omega) ?_ (by simpa using e) h hs
  unfold seqIndex?
  simp only [List.size_toArray, show ¬ k < 0 from by omega, if_false]
  rw [if_pos (by simp only [Bool.and_eq_true, decide_eq_true_eq]; omega)]
theorem seq_at {k n : Nat} (h : k < n) : seqIndex? (k : Int) n = some k := by
  unfold seqIndex?
  simp only [show ¬ (k : Int) < 0 from by omega, if_false]
  rw [if_pos (by simp only [Bool.and_eq_true, decide_eq_true_eq]; omega)]
  rfl
theorem item_at0 {prog : Program} {w : World} {A : Around} {E : Value → Shared → Prop} {s : Shared} {value slice : PySem.Expr} {h₀ : Heap} {L l : Addr} {news : List (Addr × Obj)} {n : Nat} {u : Tok} {v : Value} {r : List Value} {Q : Value → Shared → Prop}
    (N : News h₀ L s.heap news) (hm : (l, tup (v :: r).toArray n) ∈ news) (h : Q v s)
    (hs : subscripted slice false (.ref l) (.int 0 u) = operate [.ref l, .int 0 u] (getItem (.ref l) (.int 0 u)) := by with_unfolding_all rfl) :
    wpAny (model prog w) A (subscriptTail value slice (.ref l) (.int 0 u)) Q E s := item_tupX (j := 0) N hm (by decide) (by decide) (seq_at (by simp only [List.size_toArray, List.length_cons]; omega)) (by simp) h hs
theorem item_at1 {prog : Program} {w : World} {A : Around} {E : Value → Shared → Prop} {s : Shared} {value slice : PySem.Expr} {h₀ : Heap} {L l : Addr} {news : List (Addr × Obj)} {n : Nat} {u : Tok} {v0 v : Value} {r : List Value} {Q : Value → Shared → Prop}
    (N : News h₀ L s.heap news) (hm : (l, tup (v0 :: v :: r).toArray n) ∈ news) (h : Q v s)
    (hs : subscripted slice false (.ref l) (.int 1 u) = operate [.ref l, .int 1 u] (getItem (.ref l) (.int 1 u)) := by with_unfolding_all rfl) :
    wpAny (model prog w) A (subscriptTail value slice (.ref l) (.int 1 u)) Q E s := item_tupX (j := 1) N hm (by decide) (by decide) (seq_at (by simp only [List.size_toArray, List.length_cons]; omega)) (by simp) h hs
theorem item_at2 {prog : Program} {w : World} {A : Around} {E : Value → Shared → Prop} {s : Shared} {value slice : PySem.Expr} {h₀ : Heap} {L l : Addr} {news : List (Addr × Obj)} {n : Nat} {u : Tok} {v0 v1 v : Value} {r : List Value} {Q : Value → Shared → Prop}
    (N : News h₀ L s.heap news) (hm : (l, tup (v0 :: v1 :: v :: r).toArray n) ∈ news) (h : Q v s)
    (hs : subscripted slice false (.ref l) (.int 2 u) = operate [.ref l, .int 2 u] (getItem (.ref l) (.int 2 u)) := by with_unfolding_all rfl) :
    wpAny (model prog w) A (subscriptTail value slice (.ref l) (.int 2 u)) Q E s := item_tupX (j := 2) N hm (by decide) (by decide) (seq_at (by simp only [List.size_toArray, List.length_cons]; omega)) (by simp) h hs
theorem lt_sub {d : Addr} {l news : List (Addr × Obj)} (h : ∀ p ∈ l, p.1 < d) (s : ∀ p ∈ news, p ∈ l) : AllLt d news := allLt_of fun p hp => h p (s p hp)
theorem fresh3 {T a b : Addr} {l news : List (Addr × Obj)} (h : T = a ∨ T = b ∨ AllLt T l) (ha : AllLt a news) (hb : AllLt b news) (s : ∀ p ∈ news, p ∈ l) : AllLt T news := by
  rcases h with rfl | rfl | h
  · exact ha
  · exact hb
  · exact allLt_of fun p hp => allLt_get h p (s p hp)
end Mine
end
section
namespace Mine
open PySem.Spec PySem.Calls
noncomputable def nothingD : PyData := .tuple [.str (Str.ofString "nothing")]
noncomputable def NN (w : World) (news : List (Addr × Obj)) (v : Value) : Prop := ∃ d, Rd w news v d ∧ PySem.SeqAt.shaped d = true ∧ PyData.eqv d nothingD = false
theorem RGs.all {w : World} {n : List (Addr × Obj)} : ∀ {its : List Value}, RGs w n its → ∃ ds, RdAll w n its ds ∧ PyData.canLayAll0 ds = true ∧ PyData.depthAll ds ≤ 8
  | [], _ => ⟨[], .nil, rfl, by simp [PyData.depthAll]⟩
  | v :: r, h => by
    obtain ⟨d, hd, g1, g2⟩ := h v (.head _)
    obtain ⟨ds, h1, h2, h3⟩ := RGs.all (its := r) fun x hx => h x (.tail _ hx)
    exact ⟨d :: ds, .cons hd h1, by simp only [PyData.canLayAll0, g1, h2, Bool.and_self], by simp only [PyData.depthAll]; omega⟩
noncomputable def SH (w : World) (n : List (Addr × Obj)) (v : Value) : Prop := ∃ d, Rd w n v d ∧ PyData.canLay0 d = true ∧ PyData.depth d ≤ 12
theorem head_ne {x : Str} {ds : List PyData} (h : (x == Str.ofString "nothing") = false) : PyData.eqv (.tuple (.str x :: ds)) nothingD = false := by
  unfold nothingD
  simp [PyData.eqv, PyData.eqvAll, h]
theorem shaped_of {d : PyData} (h1 : PyData.canLay0 d = true) (h2 : PyData.depth d ≤ 12) : PySem.SeqAt.shaped d = true := by
  unfold PySem.SeqAt.shaped
  rw [h1, Bool.true_and]
  exact decide_eq_true (by omega)
inductive TupV (w : World) (n : List (Addr × Obj)) : Value → Prop
  | mk {x : Addr} {y : Str} {t : Tok} {r : List Value} {k : Nat} : (x, tup (.str y t :: r).toArray k) ∈ n → NN w n (.ref x) → TupV w n (.ref x)
theorem tupV {w : World} {n : List (Addr × Obj)} {x : Addr} {y : Str} {t : Tok} {r : List Value} {k : Nat} {ds : List PyData} (hm : (x, tup (.str y t :: r).toArray k) ∈ n) (hr : RdAll w n r ds) (h1 : PyData.canLayAll0 ds = true) (h2 : PyData.depthAll ds ≤ 10)
    (hy : (y == Str.ofString "nothing") = false) (hy2 : PyData.canLay0 (.str y) = true) : NN w n (.ref x) ∧ SH w n (.ref x) := by
  have R : Rd w n (.ref x) (.tuple (.str y :: ds)) := Rd.tuple hm rfl rfl (.cons .str hr)
  have c1 : PyData.canLay0 (.tuple (.str y :: ds)) = true := by simp only [PyData.canLay0, PyData.canLayAll0] at *; simp [*]
  have c2 : PyData.depth (.tuple (.str y :: ds)) ≤ 12 := by simp only [PyData.depth, PyData.depthAll]; omega
  exact ⟨⟨_, R, shaped_of c1 c2, head_ne hy⟩, ⟨_, R, c1, c2⟩⟩
section
variable {w : World} {n : List (Addr × Obj)} {a p : Addr} {k kp : Nat} {t ty : Tok} {x : Value} {y : Int} {its : List Value}
theorem nn_ref (h : (a, tup #[.str (Str.ofString "ref") t, x] k) ∈ n) (g : RG w n x) : NN w n (.ref a) ∧ SH w n (.ref a) := by
  obtain ⟨d, hd, g1, g2⟩ := g
  exact tupV (r := [x]) (ds := [d]) h (.cons hd .nil) (by simp [PyData.canLayAll0, g1]) (by simp only [PyData.depthAll]; omega) (by decide) (by decide +kernel)
theorem nn_box (h : (a, tup #[.str (Str.ofString "box") t, x] k) ∈ n) (g : RG w n x) : NN w n (.ref a) ∧ SH w n (.ref a) := by
  obtain ⟨d, hd, g1, g2⟩ := g
  exact tupV (r := [x]) (ds := [d]) h (.cons hd .nil) (by simp [PyData.canLayAll0, g1]) (by simp only [PyData.depthAll]; omega) (by decide) (by decide +kernel)
theorem sh_tup (h : (p, tup its.toArray kp) ∈ n) (g : RGs w n its) : ∃ d, Rd w n (.ref p) d ∧ PyData.canLay0 d = true ∧ PyData.depth d ≤ 9 := by
  obtain ⟨ds, h1, h2, h3⟩ := g.all
  exact ⟨_, Rd.tuple h rfl rfl h1, by simp only [PyData.canLay0, h2], by simp only [PyData.depth]; omega⟩
theorem nn_flds (h : (a, tup #[.str (Str.ofString "fields") t, .ref p] k) ∈ n) (hp : (p, tup its.toArray kp) ∈ n) (g : RGs w n its) : NN w n (.ref a) ∧ SH w n (.ref a) := by
  obtain ⟨d, hd, g1, g2⟩ := sh_tup hp g
  exact tupV (r := [.ref p]) (ds := [d]) h (.cons hd .nil) (by simp [PyData.canLayAll0, g1]) (by simp only [PyData.depthAll]; omega) (by decide) (by decide +kernel)
theorem nn_vrnt (h : (a, tup #[.str (Str.ofString "variant") t, .int y ty, .ref p] k) ∈ n) (hp : (p, tup its.toArray kp) ∈ n) (g : RGs w n its) : NN w n (.ref a) ∧ SH w n (.ref a) := by
  obtain ⟨d, hd, g1, g2⟩ := sh_tup hp g
  exact tupV (r := [.int y ty, .ref p]) (ds := [.int y, d]) h (.cons .int (.cons hd .nil)) (by simp [PyData.canLayAll0, PyData.canLay0, g1]) (by simp only [PyData.depthAll, PyData.depth]; omega) (by decide) (by decide +kernel)
end
inductive NC (w : World) (n : List (Addr × Obj)) : Value → Bool → Prop
  | int (i : Int) (t : Tok) : NC w n (.int i t) true
  | bool (b : Bool) : NC w n (.bool b) true
  | nothing : NC w n (.ref 98) true
  | tup {x : Addr} {arr : Array Value} {k : Nat} : (x, tup arr k) ∈ n → NN w n (.ref x) → NC w n (.ref x) false
noncomputable def isNone : Value → Bool
  | .int _ _ => true
  | .bool _ => true
  | .ref 98 => true
  | _ => false
noncomputable def StepOk (st : Value) (k : Int ⊕ Str) : Prop := (∃ i t, st = .int i t ∧ k = .inl i) ∨ ∃ t, st = .str (Str.ofString "*") t ∧ k = .inr (Str.ofString "*")
theorem StepOk.is {prog : Program} {w : World} {st : Value} {k : Int ⊕ Str} (h : StepOk st k) : (mix prog w).is k st = true := by
  rcases h with ⟨i, t, rfl, rfl⟩ | ⟨t, rfl, rfl⟩
  · exact mix_int ..
  · exact mix_str ..
theorem valueAt_idx : ∀ (its : List Value) (j : Nat) (i : Int), (j : Int) ≤ i → valueAt (idxL j its) (.inl i) = its[(i - j).toNat]?
  | [], _, _, _ => by simp [idxL, valueAt]
  | x :: r, j, i, h => by
    unfold idxL valueAt
    by_cases e : (j : Int) = i
    · subst e
      simp
    · have e2 : ¬ ((Sum.inl (j : Int) : Int ⊕ Str) = .inl i) := fun q => e (Sum.inl.inj q)
      rw [List.find?_cons_of_neg (by simpa using e2)]
      have := valueAt_idx r (j + 1) i (by omega)
      unfold valueAt at this
      rw [this]
      have : (i - (j : Int)).toNat = (i - ((j + 1 : Nat) : Int)).toNat + 1 := by omega
      rw [this, List.getElem?_cons_succ]
theorem valueAt_neg : ∀ (its : List Value) (j : Nat) (i : Int), i < (j : Int) → valueAt (idxL j its) (.inl i) = none
  | [], _, _, _ => by simp [idxL, valueAt]
  | x :: r, j, i, h => by
    unfold idxL valueAt
    have e2 : ¬ ((Sum.inl (j : Int) : Int ⊕ Str) = .inl i) := fun q => by have := Sum.inl.inj q; omega
    rw [List.find?_cons_of_neg (by simpa using e2)]
    have := valueAt_neg r (j + 1) i (by omega)
    unfold valueAt at this
    exact this
theorem valueAt_str : ∀ (its : List Value) (j : Nat) (x : Str), valueAt (idxL j its) (.inr x) = none
  | [], _, _ => by simp [idxL, valueAt]
  | y :: r, j, x => by
    unfold idxL valueAt
    rw [List.find?_cons_of_neg (by simp)]
    have := valueAt_str r (j + 1) x
    unfold valueAt at this
    exact this
theorem news_app2 {h₀ h : Heap} {L : Addr} {x y : Addr × Obj} {l t : List (Addr × Obj)} (N : News h₀ L h (l ++ t)) (h1 : x ∈ t) (h2 : y ∈ t) : News h₀ L h (x :: y :: (l ++ t)) := fun p hp => N p (by
  rcases List.mem_cons.mp hp with rfl | hp
  · exact List.mem_append_right _ h1
  · rcases List.mem_cons.mp hp with rfl | hp
    · exact List.mem_append_right _ h2
    · exact hp)
theorem step_of {t1 t2 t3 t4 t5 t6 : Tok} {v : Value} (h : ∃ i : Nat, (#[.int (-1) t1, .int 0 t2, .int 1 t3, .int 2 t4, .int 3 t5, .str (Str.ofString "*") t6] : Array Value)[i]? = some v) : ∃ k, StepOk v k := by
  obtain ⟨i, hv⟩ := h
  rcases i with _ | _ | _ | _ | _ | _ | i
  all_goals (try (simp at hv; done))
  all_goals (simp only [Nat.zero_add, List.getElem?_toArray, List.getElem?_cons_succ, List.getElem?_cons_zero, Option.some.injEq] at hv; subst hv)
  all_goals first | exact ⟨_, .inl ⟨_, _, rfl, rfl⟩⟩ | exact ⟨_, .inr ⟨_, rfl, rfl⟩⟩
theorem notin_split {prog : Program} {w : World} {A : Around} {E : Value → Shared → Prop} {s : Shared} {h₀ : Heap} {L d : Addr} {news : List (Addr × Obj)} {o : Obj} {kvs : List ((Int ⊕ Str) × Value)} {k : Int ⊕ Str} {key : Value} {Q : Value → Shared → Prop}
    (N : News h₀ L s.heap news) (hp : (d, o) ∈ news) (hd : o.IsDictOf (mix prog w) kvs) (lo : (d == sysModules) = false) (hst : StepOk key k)
    (h0 : valueAt kvs k = none → Q (.bool true) { s with toks := s.toks + 1 }) (h1 : ∀ x, valueAt kvs k = some x → Q (.bool false) { s with toks := s.toks + 1 }) :
    wpAny (model prog w) A (compareOp .NotIn key (.ref d)) Q E s := by
  cases e : valueAt kvs k with
  | none => exact kdg_notin N hp hd lo hst.is false (by rw [e]; rfl) (h0 e)
  | some x => exact kdg_notin N hp hd lo hst.is true (by rw [e]; rfl) (h1 x e)
theorem NN.mono {w : World} {n n' : List (Addr × Obj)} {v : Value} (h : NN w n v) (s : ∀ p ∈ n, p ∈ n') : NN w n' v := let ⟨d, a, b, c⟩ := h; ⟨d, a.mono s, b, c⟩
end Mine
end
section
namespace Mine
open PySem.Spec
section
variable {M : Model} {A : Around} {E : Value → Shared → Prop} {s : Shared}
noncomputable def ClsD (cls : Value) (dd : Option Addr) (o : Obj) : Prop := o.cls = cls ∧ o.dict = dd
noncomputable def Tr (cls : Value) (dd : Option Addr) (h base : Heap) (e : Addr) (fl : Value) : Prop :=
  ∃ oe vs T oT ts, h.get? e = some oe ∧ ClsD cls dd oe ∧ oe.data = .fields vs ∧ vs[1]? = some (.ref T) ∧ base.get? T = none ∧ T ≠ e ∧ h.get? T = some oT ∧ oT.data = .fields ts ∧ ts[3]? = some fl
theorem dict_mapFields (o : Obj) (f : Array Value → Array Value) : (o.mapFields f).dict = o.dict := by
  obtain ⟨c, d, dat, sl⟩ := o
  unfold Obj.mapFields
  cases dat <;> rfl
theorem ClsD.map {cls : Value} {dd : Option Addr} {o : Obj} (h : ClsD cls dd o) (f : Array Value → Array Value) : ClsD cls dd (o.mapFields f) := ⟨(Obj.cls_mapFields _ _).trans h.1, (dict_mapFields _ _).trans h.2⟩
noncomputable def Fly (base : Heap) (l : List Env) (e : Addr) (cls : Value) (dd : Option Addr) (fl : Value) (h : Heap) : Prop :=
  base.StaysIn h ∧ base.get? e = none ∧ h.FunFrames base l ∧ Tr cls dd h base e fl
theorem upd_other {h : Heap} {T : Addr} {oT : Obj} {ts : Array Value} (hT : h.get? T = some oT) (hdT : oT.data = .fields ts) (f : Obj → Obj) : ∀ b o, h.get? b = some o → (∀ vs, o.data ≠ .fields vs) → (h.update T f).get? b = some o := fun b o hb hn => by
  rw [Heap.get?_update_other _ _ (fun q => by rw [← q, hT] at hb; cases hb; exact hn _ hdT)]; exact hb
theorem entryD {base : Heap} {env : Env} {outer : List Env} {L e : Addr} {oe : Obj} {vs : Array Value} {head : Value} {hadNext : Bool} {cls : Value} {dd : Option Addr} {Q : Unit → Shared → Prop}
    (hfr : A.frames = some (env :: outer)) (hl : s.heap.FunFrames base (env :: outer)) (hf : env.frame = some L)
    (he : s.heap.get? e = some oe) (hkb : base.StaysIn s.heap) (hen : base.get? e = none) (hc : ClsD cls dd oe) (hd : oe.data = .fields vs) (hsz : 1 < vs.size)
    (h : ∀ h', Fly base (env :: outer) e cls dd (rawInt L) h' → s.heap.UpToSlots h' → Q () { s with heap := h' }) :
    wpAny M A (do let a ← frameOf env; let pl ← entryPlaceOf L hadNext; let b ← EntryCells.newEntry head a .none (rawInt L) .none pl; setField (.ref e) 1 b) Q E s := by
  have hene : e ∉ (env :: outer).filterMap (·.frame) := fun hm => by
    obtain ⟨_, o, ho, hnf⟩ := hl.mem hm
    rw [he] at ho; cases ho; exact hnf vs hd
  refine wpAny_bind (wpAny_frameOf_fun hfr hl hf fun h₁ hs₁ => ?_)
  refine wpAny_bind (wpAny_entryPlaceOf fun pl hpl => ?_)
  unfold EntryCells.newEntry newFields
  refine wpAny_bind (wpAny_newObj_type ?_ (hpl.sizeOk5 _ _ _ _ _))
  have he₁ : h₁.get? e = some oe := (hs₁.2.1 e hene).trans he
  have kb₁ : base.StaysIn h₁ := fun b o hbo => (hs₁.2.1 b fun hm => by rw [(hl.mem hm).1] at hbo; cases hbo).trans (hkb b o hbo)
  generalize hO : ({ cls := .type "traceback", dict := none, data := .fields ([head, .ref L, .none, rawInt L, .none] ++ (if pl.isEmpty then List.replicate 6 Value.none else pl)).toArray } : Obj) = O
  have hOd : O.data = .fields ([head, .ref L, .none, rawInt L, .none] ++ (if pl.isEmpty then List.replicate 6 Value.none else pl)).toArray := by rw [← hO]
  have hOf : O.isFreed = false := Obj.isFreed_of_fields hOd
  have he₂ : (h₁.push O).get? e = some oe := Heap.get?_push_of_some O he₁
  refine wpAny_setField he₂ hd hsz (h _ ?_ ?_)
  all_goals have hTe : h₁.objs.size ≠ e := Nat.ne_of_gt (Heap.lt_size he₁)
  · have hd₃ := Obj.data_mapFields hd (·.setIfInBounds 1 (Value.ref h₁.objs.size))
    have he₃ := Heap.get?_update_self (Obj.mapFields (·.setIfInBounds 1 (Value.ref h₁.objs.size))) he₂ (Obj.isFreed_of_fields hd₃)
    have hT₃ := (Heap.get?_update_other (h₁.push O) (Obj.mapFields (·.setIfInBounds 1 (Value.ref h₁.objs.size))) (Ne.symm hTe)).trans (Heap.get?_push_size h₁ hOf)
    refine ⟨fun b o hbo => ?_, hen, hl.of_keeps fun b o hb hnf => ?_, _, _, h₁.objs.size, _, _, he₃, hc.map _, hd₃, by simp [hsz], kb₁.fresh, hTe, hT₃, hOd, by simp⟩
    · rw [Heap.get?_update_other _ _ (fun q => by rw [← q, hen] at hbo; cases hbo)]
      exact Heap.get?_push_of_some _ (kb₁ b o hbo)
    · obtain ⟨sl, hs⟩ := hs₁.2.2 b o hb
      exact ⟨_, upd_other he₂ hd _ b _ (Heap.get?_push_of_some _ hs) hnf, rfl⟩
  · intro b o hb hnf
    obtain ⟨sl, hs⟩ := hs₁.2.2 b o hb
    exact ⟨sl, upd_other he₂ hd _ b _ (Heap.get?_push_of_some _ hs) hnf⟩
theorem note_first {base : Heap} {env : Env} {outer : List Env} {L e : Addr} {oe : Obj} {vs : Array Value} {cls : Value} {dd : Option Addr} {Q : Unit → Shared → Prop}
    (hfr : A.frames = some (env :: outer)) (hl : s.heap.FunFrames base (env :: outer)) (hf : env.frame = some L)
    (he : s.heap.get? e = some oe) (hkb : base.StaysIn s.heap) (hen : base.get? e = none) (hc : ClsD cls dd oe) (hd : oe.data = .fields vs) (h1 : vs[1]? = some .none)
    (h : ∀ h', Fly base (env :: outer) e cls dd (rawInt L) h' → s.heap.UpToSlots h' → Q () { s with heap := h' }) : wpAny M A (noteFrame (.ref e) env) Q E s := by
  unfold noteFrame
  simp only [hf]
  refine wpAny_bind (wpAny_field he hd h1 ?_)
  rw [if_neg (by decide)]
  exact entryD hfr hl hf he hkb hen hc hd (Array.getElem?_eq_some_iff.mp h1).1 h
theorem note_next {base : Heap} {env : Env} {outer : List Env} {L e : Addr} {cls : Value} {dd : Option Addr} {Q : Unit → Shared → Prop}
    (hfr : A.frames = some (env :: outer)) (hf : env.frame = some L) (hy : Fly base (env :: outer) e cls dd .none s.heap)
    (h : ∀ h', Fly base (env :: outer) e cls dd (rawInt L) h' → s.heap.UpToSlots h' → Q () { s with heap := h' }) : wpAny M A (noteFrame (.ref e) env) Q E s := by
  obtain ⟨hkb, hen, hl, oe, vs, T, oT, ts, he, hc, hd, h1, hnT, hTe, hT, hdT, h3⟩ := hy
  unfold noteFrame
  simp only [hf]
  refine wpAny_bind (wpAny_field he hd h1 ?_)
  rw [if_pos (show (Value.ref T != Value.none) = true from by simp)]
  refine wpAny_bind (wpAny_field hT hdT h3 ?_)
  rw [if_neg (show ¬ ((Value.none == rawInt L) = true) from by simp [rawInt])]
  refine wpAny_bind (wpAny_setField hT hdT (Array.getElem?_eq_some_iff.mp h3).1 ?_)
  have other : ∀ b o, s.heap.get? b = some o → (∀ vs, o.data ≠ .fields vs) → (s.heap.update T (Obj.mapFields (·.setIfInBounds 3 Value.none))).get? b = some o := upd_other hT hdT _
  have keepT : ∀ b, b ≠ T → (s.heap.update T (Obj.mapFields (·.setIfInBounds 3 Value.none))).get? b = s.heap.get? b := fun b hb => Heap.get?_update_other _ _ (Ne.symm hb)
  refine entryD hfr (hl.of_keeps fun b o hb hnf => ⟨o, other b o hb hnf, rfl⟩) hf ((keepT e (Ne.symm hTe)).trans he)
    (fun b o hbo => (keepT b fun q => by rw [q, hnT] at hbo; cases hbo).trans (hkb b o hbo)) hen hc hd (Array.getElem?_eq_some_iff.mp h1).1
    fun h' y u => h h' y fun b o hb hn => u b o (other b o hb hn) hn
theorem lands {base : Heap} {l : List Env} {e : Addr} {cls fl : Value} {dd : Option Addr} {Q : Unit → Shared → Prop} (hy : Fly base l e cls dd fl s.heap)
    (h : ∀ h', Fly base l e cls dd .none h' → s.heap.UpToSlots h' → Q () { s with heap := h' }) : wpAny M A (setFlight (.ref e) none) Q E s := by
  obtain ⟨hkb, hen, hl, oe, vs, T, oT, ts, he, hc, hd, h1, hnT, hTe, hT, hdT, h3⟩ := hy
  have hsz3 : 3 < ts.size := (Array.getElem?_eq_some_iff.mp h3).1
  unfold setFlight
  refine wpAny_bind (wpAny_field he hd h1 ?_)
  rw [if_pos (show (Value.ref T != Value.none) = true from by simp)]
  have other : ∀ b o, s.heap.get? b = some o → (∀ vs, o.data ≠ .fields vs) → (s.heap.update T (Obj.mapFields (·.setIfInBounds 3 ((none : Option Addr).elim Value.none fun f => rawInt f)))).get? b = some o := upd_other hT hdT _
  have keepT : ∀ b, b ≠ T → (s.heap.update T (Obj.mapFields (·.setIfInBounds 3 ((none : Option Addr).elim Value.none fun f => rawInt f)))).get? b = s.heap.get? b := fun b hb => Heap.get?_update_other _ _ (Ne.symm hb)
  refine wpAny_setField hT hdT hsz3 (h _ ⟨fun b o hbo => (keepT b fun q => by rw [q, hnT] at hbo; cases hbo).trans (hkb b o hbo), hen, hl.of_keeps fun b o hb hnf => ⟨o, other b o hb hnf, rfl⟩, ?_⟩ fun b o hb hn => ⟨o.slots, other b o hb hn⟩)
  exact ⟨oe, vs, T, _, _, (keepT e (Ne.symm hTe)).trans he, hc, hd, h1, hnT, hTe, Heap.get?_update_self _ hT (Obj.isFreed_of_fields (Obj.data_mapFields hdT _)), Obj.data_mapFields hdT _, by simp [hsz3]⟩
theorem Fly.pop {base h : Heap} {env : Env} {outer : List Env} {e : Addr} {cls fl : Value} {dd : Option Addr} (y : Fly base (env :: outer) e cls dd fl h) : Fly base outer e cls dd fl h := by
  obtain ⟨k1, k2, ⟨_, _, k3⟩, k4⟩ := y
  exact ⟨k1, k2, k3, k4⟩
theorem leave_first {base : Heap} {env : Env} {outer : List Env} {L e : Addr} {oe : Obj} {vs : Array Value} {cls : Value} {dd : Option Addr} {Q : Unit → Shared → Prop}
    (hfr : A.frames = some (env :: outer)) (hl : s.heap.FunFrames base (env :: outer)) (hf : env.frame = some L)
    (he : s.heap.get? e = some oe) (hkb : base.StaysIn s.heap) (hen : base.get? e = none) (hc : ClsD cls dd oe) (hd : oe.data = .fields vs) (h1 : vs[1]? = some .none)
    (h : ∀ h', Fly base outer e cls dd .none h' → s.heap.UpToSlots h' → Q () { s with heap := h' }) : wpAny M A (leaving env (.ref e)) Q E s := by
  unfold leaving
  refine wpAny_bind (note_first hfr hl hf he hkb hen hc hd h1 fun h1 y1 u1 => ?_)
  exact lands y1 fun h2 y2 u2 => h h2 y2.pop (u1.trans u2)
theorem leave_next {base : Heap} {env : Env} {outer : List Env} {L e : Addr} {cls : Value} {dd : Option Addr} {Q : Unit → Shared → Prop}
    (hfr : A.frames = some (env :: outer)) (hf : env.frame = some L) (hy : Fly base (env :: outer) e cls dd .none s.heap)
    (h : ∀ h', Fly base outer e cls dd .none h' → s.heap.UpToSlots h' → Q () { s with heap := h' }) : wpAny M A (leaving env (.ref e)) Q E s := by
  unfold leaving
  refine wpAny_bind (note_next hfr hf hy fun h1 y1 u1 => ?_)
  exact lands y1 fun h2 y2 u2 => h h2 y2.pop (u1.trans u2)
end
noncomputable def RsD (base : Heap) (l : List Env) (e : Addr) (cls : Value) (dd : Addr) (news : List (Addr × Obj)) (h : Heap) : Prop :=
  ∃ B, base.StaysIn B ∧ (∀ q ∈ news, B.get? q.1 = some q.2 ∧ base.get? q.1 = none) ∧ Fly B l e cls (some dd) .none h
section
variable {M : Model} {A : Around} {E : Value → Shared → Prop} {s : Shared} {base g : Heap} {outer : List Env} {env : Env} {L e : Addr} {m : Str → Option Value} {Q : Unit → Shared → Prop} {news : List (Addr × Obj)} {cls : Value} {dd : Addr}
end
end Mine
end
section
namespace Mine
open PySem.Spec PySem.Calls
section
variable {prog : Program} {w : World} {A₀ : Around} {E : Value → Shared → Prop} {s' : Shared} {h₀ h : Heap} {outer : List Env} {L a e dd : Addr} {m : Str → Option Value} {name : Str} {scope : Scope} {cd : Value}
  {n : Str} {b₀ : Stmt} {suite : List Stmt} {pos np : Pos} {rest : List ExceptHandler} {Q : Flow → Shared → Prop} {news : List (Addr × Obj)} {KF : Frag} {C : Addr}
  {p : Program} {loose : List Str} {mg mb : Str → Option Value} {x : Str}
end
end Mine
end
section
namespace Mine
open PySem.Spec PySem.Calls
noncomputable abbrev excD (C dd t : Addr) : Obj := { cls := .ref C, dict := some dd, data := .fields #[.ref t, .none, .none, .none, .bool false, .none] }
section
variable {M : Model} {A : Around} {E : Value → Shared → Prop} {s : Shared} {env : Env}
variable {nm q : Str} {C N : Addr} {bs bm : List Value} {hdct : Bool} {sn : List Str} {sub : List Value} {ab : Bool} {col : Option Bool} {ddC : Option Addr} {k0 k1 k2 k3 k5 : Option Value} {newId : String}
theorem raiseStmtD {x : Sem Value} {Q : Flow → Shared → Prop} (hbase : bm.contains (.type "BaseException") = true) (hh : A.handled = none)
    (h : wpAny M A x (fun v s₁ => ∃ e dd t, v = .ref e ∧ s₁.heap.get? C = some (excClassObj nm q C N bs bm hdct sn sub ab col ddC k0 k1 k2 k3 k5 newId) ∧
      s₁.heap.get? e = some (excD C dd t) ∧ E (.ref e) s₁) E s) :
    wpAny M A (raiseStmt env (some x) none) Q E s := by
  have hcB : (Value.ref C :: bm).contains (.type "BaseException") = true := by rw [List.contains_cons, hbase, Bool.or_true]
  unfold raiseStmt
  refine wpAny_bind (wpAny_mono h (fun v s₁ h₁ => ?_) fun _ _ x => x)
  obtain ⟨e, dd, t, rfl, hC, he, hE⟩ := h₁
  obtain ⟨hp, g, d, tk, os⟩ := s₁
  repeat (first | with_reducible refine wpAny_loadPart_at he ?_ | with_reducible refine wpAny_loadPart_at hC ?_ | (with_reducible refine wpAny_isSubtype_exc hC ?_; rw [hcB]) | wp_step)
  exact wpAny_raiseNew_none hh hE
theorem raiseD {x : PySem.Expr} {pos : Pos} {Q : Flow → Shared → Prop} (hbase : bm.contains (.type "BaseException") = true) (hh : A.handled = none)
    (h : wpAny M A (eval x env) (fun v s₁ => ∃ e dd t, v = .ref e ∧ s₁.heap.get? C = some (excClassObj nm q C N bs bm hdct sn sub ab col ddC k0 k1 k2 k3 k5 newId) ∧
      s₁.heap.get? e = some (excD C dd t) ∧ E (.ref e) s₁) E s) :
    wpAny M A (exec (.Raise (some x) none pos) env) Q E s := by
  rw [arm_exec_Raise]
  show wpAny M A (do standAt pos; raiseStmt env (some (do let v ← eval x env; standAt pos; pure v)) none) Q E s
  exact wpAny_bind (wpAny_standAt (raiseStmtD hbase hh (wpAny_bind (wpAny_mono h (fun v s₁ h₁ => wpAny_bind (wpAny_standAt (wpAny_pure h₁))) fun _ _ x => x))))
end
end Mine
end
section
namespace Mine
open PySem.Spec PySem.Calls
theorem memX {env : Env} {outer : List Env} {L b : Addr} (hf : env.frame = some L) (hm : b ∈ (env :: outer).filterMap (·.frame)) : b = L ∨ b ∈ outer.filterMap (·.frame) := by
  obtain ⟨ev, he, hfv⟩ := List.mem_filterMap.mp hm
  rcases List.mem_cons.mp he with rfl | he
  · rw [hf] at hfv; exact .inl (Option.some.inj hfv).symm
  · exact .inr (List.mem_filterMap.mpr ⟨ev, he, hfv⟩)
noncomputable def RsS (base G : Heap) (l : List Env) (e : Addr) (cls : Value) (dd : Addr) (news : List (Addr × Obj)) (h : Heap) : Prop :=
  ∃ B, base.StaysIn B ∧ (∀ b o, G.get? b = some o → b ∉ l.filterMap (·.frame) → B.get? b = some o) ∧ (∀ q ∈ news, B.get? q.1 = some q.2 ∧ G.get? q.1 = none ∧ base.get? q.1 = none) ∧ Fly B l e cls (some dd) .none h
section
variable {M : Model} {A : Around} {E : Value → Shared → Prop} {s : Shared} {base g : Heap} {outer : List Env} {env : Env} {L e : Addr} {m : Str → Option Value} {Q : Unit → Shared → Prop} {news : List (Addr × Obj)} {cls : Value} {dd : Addr}
theorem leave_raiseDS {oe : Obj} {vs : Array Value} (K : Below A base outer g) (hk : env.scope.kind = .function) (hf : env.frame = some L) (F : Fr g L s.heap m) (N : News g L s.heap ((e, oe) :: news)) (ne : ∀ q ∈ news, q.1 ≠ e)
    (hc : ClsD cls (some dd) oe) (hd : oe.data = .fields vs) (h1 : vs[1]? = some .none)
    (hQ : ∀ h', RsS base g outer e cls dd news h' → g.UpToSlots h' → Q () { s with heap := h' }) : wpAny M (A.deeper env) (leaving env (.ref e)) Q E s := by
  have K' := pushX K F hf hk
  have he := N (e, oe) (.head _)
  have hbe : base.get? e = none := fresh_of_stays K.stays he.2.2
  have hin : ∀ ev ∈ (env :: outer), ∀ b, ev.frame = some b → b ∈ e :: (env :: outer).filterMap (·.frame) := fun ev hv b hb => .tail _ (List.mem_filterMap.mpr ⟨ev, hv, hb⟩)
  have st : base.StaysIn (hideAll s.heap (e :: (env :: outer).filterMap (·.frame))) := fun b o q => hideAll_get _ (K'.stays b o q) fun hm => by
    rcases List.mem_cons.mp hm with rfl | hm
    · rw [hbe] at q; cases q
    · rw [(K'.frames.mem hm).1] at q; cases q
  have sg : ∀ b o, g.get? b = some o → b ∉ outer.filterMap (·.frame) → (hideAll s.heap (e :: (env :: outer).filterMap (·.frame))).get? b = some o := fun b o q nm => hideAll_get _ (F.keep b o q) fun hm => by
    rcases List.mem_cons.mp hm with rfl | hm
    · rw [he.2.2] at q; cases q
    · rcases memX hf hm with z | z
      · rw [z, kts_self F] at q
        cases q
      · exact nm z
  have hl : ∀ q ∈ news, (hideAll s.heap (e :: (env :: outer).filterMap (·.frame))).get? q.1 = some q.2 ∧ g.get? q.1 = none ∧ base.get? q.1 = none := fun q hq => by
    have z := N q (.tail _ hq)
    refine ⟨hideAll_get _ z.1 fun hm => ?_, z.2.2, fresh_of_stays K.stays z.2.2⟩
    rcases List.mem_cons.mp hm with q1 | hm
    · exact ne q hq q1
    · obtain ⟨ev, hv, hfv⟩ := List.mem_filterMap.mp hm
      rcases List.mem_cons.mp hv with rfl | hv
      · rw [hf] at hfv; exact z.2.1 (Option.some.inj hfv).symm
      · obtain ⟨o, ho, _⟩ := (K.frames.mem (List.mem_filterMap.mpr ⟨ev, hv, hfv⟩)).2
        rw [z.2.2] at ho; cases ho
  exact leave_first K'.stack (funFrames_hide K'.frames hin) hf he.1 (fun b o q => of_hideAll _ q) (hideAll_none _ (.head _)) hc hd h1 fun h' y u => hQ h' ⟨_, st, sg, hl, y⟩ ((Heap.UpToSlots.of_keeps F.keep).trans u)
theorem leave_onDS {g₂ : Heap} (K : Below A base outer g) (hf : env.frame = some L) (F : Fr g L g₂ m) (R : RsS base g₂ (env :: outer) e cls dd news s.heap) (hsm : g₂.UpToSlots s.heap)
    (hQ : ∀ h', RsS base g outer e cls dd news h' → g.UpToSlots h' → Q () { s with heap := h' }) : wpAny M (A.deeper env) (leaving env (.ref e)) Q E s := by
  obtain ⟨B, hB, hBG, hl, y⟩ := R
  exact leave_next (Around.frames_deeper K.stack) hf y fun h' x1 x2 => hQ h' ⟨B, hB, fun b o q nm => hBG b o (F.keep b o q) (fun hm => by
      rcases memX hf hm with z | z
      · rw [z, kts_self F] at q; cases q
      · exact nm z), fun q hq => ⟨(hl q hq).1, kts_none F.keep (hl q hq).2.1, (hl q hq).2.2⟩, x1⟩ ((Heap.UpToSlots.of_keeps F.keep).trans (hsm.trans x2))
end
section
variable {prog : Program} {w : World} {A₀ : Around} {E : Value → Shared → Prop} {s' : Shared} {base g g₀ G : Heap} {outer : List Env} {L a e dd : Addr} {m : Str → Option Value} {name : Str} {scope : Scope} {cd : Value}
  {n : Str} {b₀ : Stmt} {suite : List Stmt} {pos np : Pos} {rest : List ExceptHandler} {Q : Flow → Shared → Prop} {news : List (Addr × Obj)} {KF : Frag} {C : Addr}
  {p : Program} {loose : List Str} {mean : ExcName → Option Value} {mg mb : Str → Option Value} {x : Str}
theorem caughtDS {nm q : Str} {N : Addr} {bs bm : List Value} {hdct : Bool} {sn : List Str} {sub : List Value} {ab : Bool} {col : Option Bool} {ddC : Option Addr} {k0 k1 k2 k3 k5 : Option Value} {newId : String}
    (K : Below A₀ base outer g) (F : Fr g L G m) (hsm : G.UpToSlots s'.heap) (R : RsS base G (envOf name scope L a cd :: outer) e (.ref C) dd news s'.heap)
    (XB : KF.In base) (TB : Top p loose mean mg mb base) (D : KtsDicts (outer.filterMap (·.frame)) g) (T0 : KtsTurn (outer.filterMap (·.frame)) g₀ g)
    (ex : nsIn KF mainGlobals x = some (some (.ref C))) (hC : base.get? C = some (excClassObj nm q C N bs bm hdct sn sub ab col ddC k0 k1 k2 k3 k5 newId)) (hbase : bm.contains (.type "BaseException") = true)
    (k : ∀ h' g' oe ws tk, KtsTurn (outer.filterMap (·.frame)) g₀ g' → Fr g' L h' (fun y => if y = n then some (.ref e) else m y) → News g' L h' ((e, oe) :: news) → ClsD (.ref C) (some dd) oe → oe.data = .fields ws →
      Below A₀ base outer g' → KF.In g' → Top p loose mean mg mb g' → KtsDicts (outer.filterMap (·.frame)) g' →
      wpAny (model prog w) ((A₀.deeper (envOf name scope L a cd)).mark (some (.ref e))) (execs (b₀ :: suite) (envOf name scope L a cd))
        (fun f s₄ => wpAny (model prog w) (A₀.deeper (envOf name scope L a cd)) (do bindName (envOf name scope L a cd) n .none; unbindBehindTheSuite (envOf name scope L a cd) n pos) (fun _ s₅ => Q f s₅) E s₄)
        (AsSuiteRaised (model prog w) ((A₀.deeper (envOf name scope L a cd)).mark (some (.ref e))) (envOf name scope L a cd) n pos (notedBy (model prog w) ((A₀.deeper (envOf name scope L a cd)).mark (some (.ref e))) (envOf name scope L a cd) (cameBackBy (model prog w) (A₀.deeper (envOf name scope L a cd)) (envOf name scope L a cd) E)))
        { s' with heap := h', toks := tk })
    (hk : scope.kind = .function := by rfl) (hlo : (envOf name scope L a cd).kindOf n = some .local := by rfl) (hx : (envOf name scope L a cd).kindOf x = some .globalImplicit := by rfl) (hd : (x == ("__debug__" : Str)) = false := by decide) :
    wpAny (model prog w) (A₀.deeper (envOf name scope L a cd)) (noteFrame (.ref e) (envOf name scope L a cd))
      (fun _ s₂ => wpAny (model prog w) (A₀.deeper (envOf name scope L a cd)) (setFlight (.ref e) none) (fun _ s₃ =>
        wpAny (model prog w) (A₀.deeper (envOf name scope L a cd)) (handleBy (.ref e) (envOf name scope L a cd) (.ExceptHandler (some (.Name x np)) (some n) (b₀ :: suite) pos :: rest)) Q E s₃) E s₂) E s' := by
  obtain ⟨B, hB, hBG, hl, hfl⟩ := R
  have hL : B.get? L = none := by
    obtain ⟨_, _, ⟨_, ⟨L', _, hf, hn', _⟩, _⟩, _⟩ := hfl
    obtain rfl : L = L' := Option.some.inj hf
    exact hn'
  refine note_next (Around.frames_deeper K.stack) rfl hfl fun h₄ hheld₄ hsm₄ => ?_
  refine lands hheld₄ fun h₅ hheld hsm₅' => ?_
  have hsm₅ := hsm₄.trans hsm₅'
  obtain ⟨g₅, T₅, F₅, K₅⟩ := kts_ground K F hBG hheld.1 (hsm.trans hsm₅)
  have X₅ : KF.In g₅ := XB.keeps K₅.stays
  have P₅ : TopRead p loose mg mb g₅ := topRead_of (TB.keeps K₅.stays)
  obtain ⟨ob, hob, hobc⟩ : ∃ ob, h₅.get? e = some ob ∧ ob.cls = .ref C := by
    obtain ⟨_, _, _, oe, _, _, _, _, q1, q2, _⟩ := hheld
    exact ⟨oe, q1, q2.1⟩
  have hC₅ := F₅.keep _ _ (K₅.stays _ _ hC)
  refine wpAny_handleBy_cons (codeAny_handlers_test (name_K F₅ X₅ P₅ ex ?_ hk hx hd)) (by intro q; cases q)
  refine wpAny_excMatches_sub_self hC₅ hob hobc hbase (codeAny_handlers_suite_as ?_)
  refine lands hheld fun h₆ hfl₆ hsm₆ => ?_
  obtain ⟨g₆, T₆, F₆, K₆⟩ := kts_ground K F hBG hfl₆.1 ((hsm.trans hsm₅).trans hsm₆)
  obtain ⟨oe, ws, hoe, hoec, hoed⟩ : ∃ oe ws, h₆.get? e = some oe ∧ ClsD (.ref C) (some dd) oe ∧ oe.data = .fields ws := by
    obtain ⟨_, _, _, oe, ws, _, _, _, q1, q2, q3, _⟩ := hfl₆
    exact ⟨oe, ws, q1, q2, q3⟩
  have ne₆ : g₆.get? e = none := T₆.none_ _ (kts_fresh F hBG hfl₆.2.1 fun o ho m => by
    obtain ⟨_, o', ho', hd⟩ := K.frames.mem m
    rw [ho] at ho'
    cases ho'
    obtain ⟨sl, hs⟩ := ((hsm.trans hsm₅).trans hsm₆) _ _ (F.keep _ _ ho) hd
    rw [hoe] at hs
    cases hs
    exact hd _ hoed)
  have N₆ : News g₆ L h₆ ((e, oe) :: news) := fun q hq => by
    rcases List.mem_cons.mp hq with rfl | hq
    · exact News.more F₆ News.nil hoe (fun es n q => by rw [hoed] at q; cases q) ne₆ _ (.head _)
    · exact ⟨hfl₆.1 _ _ (hl q hq).1, (fun z => by have := (hl q hq).1; rw [z, hL] at this; cases this), T₆.none_ _ (kts_none F.keep (hl q hq).2.1)⟩
  exact stN F₆ N₆ (fun h₇ F₇ N₇ => k h₇ g₆ oe ws _ (T0.trans T₆) F₇ N₇ hoec hoed K₆ (XB.keeps K₆.stays) (TB.keeps K₆.stays) (D.turn T₆)) hk hlo
end
section
variable {prog : Program} {w : World} {A₀ A : Around} {s : Shared} {base h₀ g₀ : Heap} {outer : List Env} {L a : Addr} {m : Str → Option Value} {env : Env} {news : List (Addr × Obj)} {K : Frag} {p : Program} {loose : List Str} {mean : ExcName → Option Value} {mg mb : Str → Option Value}
    {R : Result → Shared → Prop} {name qual : Str} {params : Arguments} {body : List Stmt} {scope : Scope} {dV kV doc pm cdv ct oc : Value} {an od : Option Addr} {osl : Array (Option Value)} {f : Addr} {args : Args} {binds : List (Str × Value)}
theorem enterX (B : Below A₀ base outer h₀) (F : Fr h₀ L s.heap m) (N : News h₀ L s.heap news) (hA : A.frames = some (env :: outer)) (hf : env.frame = some L) (hke : env.scope.kind = .function) :
    ∃ oL es ep, (hideAll s.heap (news.map (·.1))).get? L = some oL ∧ oL.data = .dict es ep ∧ (∀ h', h'.get? L = some oL → Heap.Ns h' L m) ∧ (∀ (sl : Array (Option Value)) h', h'.get? L = some { oL with slots := sl } → Heap.Ns h' L m) ∧
      h₀.StaysIn (hideAll s.heap (news.map (·.1))) ∧ Below A base (env :: outer) (hideAll s.heap (news.map (·.1))) := by
  have nm : ∀ b o, h₀.get? b = some o → b ∉ news.map (·.1) := fun b o e q => by
    obtain ⟨p, hp, rfl⟩ := List.mem_map.mp q
    rw [(N p hp).2.2] at e; cases e
  have st : h₀.StaysIn (hideAll s.heap (news.map (·.1))) := fun b o e => hideAll_get _ (F.keep b o e) (nm b o e)
  obtain ⟨oL, es, ep, hL, hLd, hLk, hLf⟩ := F.ns
  have nL : L ∉ news.map (·.1) := fun q => by
    obtain ⟨p, hp, e⟩ := List.mem_map.mp q
    exact (N p hp).2.1 e
  have hLg := hideAll_get (news.map (·.1)) hL nL
  have B₁ := pushX B F hf hke
  exact ⟨oL, es, ep, hLg, hLd, fun h' e => ⟨oL, es, ep, e, hLd, hLk, hLf⟩, fun sl h' e => ⟨_, es, ep, e, hLd, hLk, hLf⟩, st, ⟨hA, fun b o e => st b o (B.stays b o e), funFrames_hideAll B₁.frames fun env' he b hb hf' => by
    cases he with
    | head => exact nL ((Option.some.inj (hf.symm.trans hf') : L = b) ▸ hb)
    | tail _ he =>
      obtain ⟨L₁, o₁, hf₁, ho₁⟩ := funFrames_in B.frames env' he
      rw [hf₁] at hf'
      exact nm L₁ o₁ ho₁ ((Option.some.inj hf' : L₁ = b) ▸ hb)⟩⟩
theorem code_defSX (B : Below A₀ base outer h₀) (F : Fr h₀ L s.heap m) (X₀ : K.In h₀) (N : News h₀ L s.heap news) (T : Top p loose mean mg mb h₀) (XB : K.In base) (TB : Top p loose mean mg mb base) (D : KtsDicts (outer.filterMap (·.frame)) h₀)
    (T0 : KtsTurn (outer.filterMap (·.frame)) g₀ h₀) (hA : A.frames = some (env :: outer)) (hf : env.frame = some L) (hck : env.scope.kind = .function)
    (ho : K.lookup f = some ⟨oc, od, .func (fnOf name qual params body scope dV kV doc pm an cdv ct), osl⟩) (hcd : codeIn K cdv qual = true) (hroom : A.depth < recursionLimit)
    (hbind : BindsTo s (fnOf name qual params body scope dV kV doc pm an cdv ct) args binds) (hloc : ∀ y ∈ binds, scope.names.lookup y.1 = some .local)
    (h : ∀ g L' h₁, Fr h₀ L g m → Fr g L' h₁ (fun y => binds.reverse.lookup y) → News g L' h₁ news → Below A base (env :: outer) g → K.In g → Top p loose mean mg mb g → KtsDicts ((env :: outer).filterMap (·.frame)) g →
      wpAny (model prog w) (A.deeper (envOf qual scope L' f cdv)) (execs body (envOf qual scope L' f cdv))
        (fun fl s' => LeaveS ((env :: outer).filterMap (·.frame)) A₀ base outer K p loose mean mg mb g₀ h₀ L m g R (match fl with | .ret v => v | _ => .none) s')
        (fun e s' => wpAny (model prog w) (A.deeper (envOf qual scope L' f cdv)) (leaving (envOf qual scope L' f cdv) e) (fun _ s'' => R (.error e) s'') (fun e' s'' => R (.error e') s'') s')
        { s with heap := h₁, toks := s.toks + binds.length })
    (hco : scope.isCoroutine = false) (hgen : scope.isGenerator = false) (hk : scope.kind = .function)
    (hcell : ∀ x ∈ scope.names, x.2 ≠ .cell) : codeAny (model prog w) A (.call (.ref f) args) R s := by
  have X := X₀.keeps F.keep
  refine codeAny_call_def (fd := fnOf name qual params body scope dV kV doc pm an cdv ct) (body := body) (binds := binds) hroom (X _ _ ho) rfl (T.nolimit.keeps F.keep) (codeRec_of X hcd) rfl hbind hcell hloc (fun h₁ hns hk₁ => ?_) hco hgen hk
  obtain ⟨oL, es, ep, hLg, hLd, hN, hNs, st, B₂⟩ := enterX B F N hA hf hck
  refine wpAny_mono (h _ s.heap.objs.size h₁ ⟨hN _ hLg, st, F.above⟩ ⟨hns, fun b o e => hk₁ b o (of_hideAll _ e), Nat.le_of_eq (hideAll_size _ _)⟩
    (fun p hp => ⟨hk₁ _ _ (N p hp).1, Nat.ne_of_lt (Heap.lt_size (N p hp).1), hideAll_none _ (List.mem_map_of_mem hp)⟩) B₂ (X₀.keeps st) (T.keeps st) (fun b hb => by
      rcases memX hf hb with rfl | hb
      · exact ⟨oL, es, ep, hLg, hLd⟩
      · obtain ⟨o, es', n', ho', hd'⟩ := D b hb
        exact ⟨o, es', n', st b o ho', hd'⟩)) (fun fl s' hl => ?_) fun _ _ y => y
  have nL₀ : h₀.get? L = none := kts_self F
  rcases hl with ⟨L', m', news', F', N', k⟩ | ⟨g', L', m', news', T', F', N', k⟩
  · refine k ⟨hN _ (F'.keep _ _ hLg), fun b o e => F'.keep b o (st b o e), F.above⟩ fun p hp => ⟨(N' p hp).1, fun q => ?_, ?_⟩
    · have := (N' p hp).2.2; rw [q, hLg] at this; cases this
    · cases q : h₀.get? p.1 with
      | none => rfl
      | some o => have := (N' p hp).2.2; rw [st _ _ q] at this; cases this
  obtain ⟨sl, hs⟩ := T'.up hLg
  obtain ⟨T₁, S₁⟩ := kts_turn_at (h := s'.heap) (fs := outer.filterMap (·.frame)) (g := h₀)
    (fun b hb => by
      obtain ⟨_, o, ho', _⟩ := B.frames.mem hb
      exact ⟨o, ho'⟩)
    (fun b o e nmem => F'.keep b o (T'.other b o (st b o e) (fun q => by
      rcases memX hf q with z | z
      · rw [z, nL₀] at e
        cases e
      · exact nmem z)))
    (fun b o e hm => by
      obtain ⟨sl', hs'⟩ := T'.up (st b o e)
      exact ⟨sl', F'.keep _ _ hs'⟩)
  have B₃ : Below A₀ base outer (ktsHeap s'.heap (outer.filterMap (·.frame)) h₀) := ⟨B.stack, fun b o e => T₁.other b o (B.stays b o e) (fun hm => by
    rw [(B.frames.mem hm).1] at e
    cases e), B.frames.of_keeps fun b o e _ => by
    obtain ⟨sl', hs'⟩ := T₁.up e
    exact ⟨_, hs', rfl⟩⟩
  refine k _ (T0.trans T₁) ⟨hNs sl _ (F'.keep _ _ hs), S₁, by rw [T₁.size]; exact F.above⟩ (fun p hp => ⟨(N' p hp).1, fun q => ?_, ?_⟩) B₃ (XB.keeps B₃.stays) (TB.keeps B₃.stays) (D.turn T₁)
  · have := (N' p hp).2.2; rw [q, hs] at this; cases this
  · refine T₁.none_ _ ?_
    cases q : h₀.get? p.1 with
    | none => rfl
    | some o =>
      obtain ⟨sl', hs'⟩ := T'.up (st _ _ q)
      have := (N' p hp).2.2
      rw [hs'] at this
      cases this
theorem code_defSC0 (B : Below A₀ base [] h₀) (F : Fr h₀ L s.heap m) (X₀ : K.In h₀) (N : News h₀ L s.heap news) (T : Top p loose mean mg mb h₀) (hA : A.frames = some [env]) (hf : env.frame = some L) (hck : env.scope.kind = .function)
    (ho : K.lookup f = some ⟨oc, od, .func (fnOf name qual params body scope dV kV doc pm an cdv ct), osl⟩) (hcd : codeIn K cdv qual = true) (hroom : A.depth < recursionLimit)
    (hbind : BindsTo s (fnOf name qual params body scope dV kV doc pm an cdv ct) args binds) (hkind : (binds.all fun y => scope.names.lookup y.1 == some .local || scope.names.lookup y.1 == some .cell) = true)
    (hnd : ((cellsFrom 0 scope.names []).map (·.1)).Nodup)
    (h : ∀ g L' h₁ tk cells, Fr h₀ L g m → Fr g L' h₁ (bindL (envOfC qual scope L' f cdv).kindOf binds fun _ => none) → News g L' h₁ (cells ++ news) →
      CellsAre (bindC (envOfC qual scope L' f cdv).kindOf binds fun _ => none) (cellsFrom (L' + 1) scope.names []) cells → Below A base [env] g → K.In g → Top p loose mean mg mb g → (∀ p ∈ news, p.1 < L') → KtsDicts ([env].filterMap (·.frame)) g →
      wpAny (model prog w) (A.deeper (envOfC qual scope L' f cdv)) (execs body (envOfC qual scope L' f cdv))
        (fun fl s' => LeaveS0 ([env].filterMap (·.frame)) h₀ L m g R (match fl with | .ret v => v | _ => .none) s')
        (fun e s' => wpAny (model prog w) (A.deeper (envOfC qual scope L' f cdv)) (leaving (envOfC qual scope L' f cdv) e) (fun _ s'' => R (.error e) s'') (fun e' s'' => R (.error e') s'') s')
        { s with heap := h₁, toks := tk })
    (hco : scope.isCoroutine = false) (hgen : scope.isGenerator = false) (hk : scope.kind = .function) : codeAny (model prog w) A (.call (.ref f) args) R s := by
  have X := X₀.keeps F.keep
  obtain ⟨oL, es, ep, hLg, hLd, hN, hNs, st, B₂⟩ := enterX B F N hA hf hck
  refine codeAny_call_function hroom (X _ _ ho) rfl hco hgen rfl (codeRec_of X hcd) (hbind _ _ _ _ ?_)
  refine wpAny_newFunctionEnv_cells hk (kindsX hkind _) fun env' he s' x => ?_
  subst he
  refine ⟨(T.nolimit.keeps F.keep).keeps x.toInCall.keep, codeAny_func ?_⟩
  obtain ⟨h₁, tk, rfl, _⟩ := x.done
  have hk₁ := x.toInCall.keep
  obtain ⟨cells, NC, Y⟩ := Cl.news (h₀ := s.heap) (Nat.le_refl _) fun n c hm => ⟨x.cell n c (lookup_of_mem_nodup (cellsFrom_names scope.names 0 (s.heap.objs.size + 1) [] [] rfl ▸ hnd) hm), x.above n c hm⟩
  refine wpAny_mono (h _ s.heap.objs.size h₁ tk cells ⟨hN _ hLg, st, F.above⟩ ⟨x.toInCall.ns, fun b o e => hk₁ b o (of_hideAll _ e), Nat.le_of_eq (hideAll_size _ _)⟩ (fun p hp => ?_) Y B₂ (X₀.keeps st) (T.keeps st) (fun p hp => Heap.lt_size (N p hp).1) (fun b hb => by
      rcases memX hf hb with rfl | z
      · exact ⟨oL, es, ep, hLg, hLd⟩
      · simp at z)) (fun fl s' hl => ?_) fun _ _ y => y
  · rcases List.mem_append.mp hp with hp | hp
    · refine ⟨(NC p hp).1, (NC p hp).2.1, ?_⟩
      cases q : (hideAll s.heap (news.map (·.1))).get? p.1 with
      | none => rfl
      | some o => have := of_hideAll _ q; rw [(NC p hp).2.2] at this; cases this
    · exact ⟨hk₁ _ _ (N p hp).1, Nat.ne_of_lt (Heap.lt_size (N p hp).1), hideAll_none _ (List.mem_map_of_mem hp)⟩
  obtain ⟨g', L', m', news', T', F', N', k⟩ := hl
  have nL₀ : h₀.get? L = none := kts_self F
  obtain ⟨sl, hs⟩ := T'.up hLg
  refine k ⟨hNs sl _ (F'.keep _ _ hs), fun b o e => F'.keep b o (T'.other b o (st b o e) (fun q => by
    rcases memX hf q with z | z
    · rw [z, nL₀] at e
      cases e
    · simp at z)), F.above⟩ fun p hp => ⟨(N' p hp).1, fun q => ?_, ?_⟩
  · have := (N' p hp).2.2; rw [q, hs] at this; cases this
  · cases q : h₀.get? p.1 with
    | none => rfl
    | some o =>
      obtain ⟨sl', hs'⟩ := T'.up (st _ _ q)
      have := (N' p hp).2.2
      rw [hs'] at this
      cases this
end
end Mine
end
section
namespace Mine
open PySem.Spec PySem.Calls PySem.Sem
section
variable {prog : Program} {w : World} {A : Around} {E : Value → Shared → Prop} {h : Heap} {g : Array GenState} {d : Drawn} {t : Nat} {os : OsState}
variable {nm q : Str} {C N : Addr} {bs bm : List Value} {hdct : Bool} {sn : List Str} {sub : List Value} {ab : Bool} {col : Option Bool} {dd : Option Addr} {k0 k1 k2 k3 k5 : Option Value}
theorem xq_check {M : Model} {rest : List Value} {Q : Unit → Shared → Prop} (hC : h.get? C = some (excClassObj nm q C N bs bm hdct sn sub ab col dd k0 k1 k2 k3 k5 "Exception.__new__")) (hB : (Value.ref C :: bm).contains (.type "Exception") = true)
    (hq : Q () ⟨h, g, d, t, os⟩) : wpAny M A (checkBuiltinCall "Exception.__new__" ⟨.ref C :: rest, []⟩) Q E ⟨h, g, d, t, os⟩ := by
  have F := PySem.F.excBase_Exception
  have n1 := F.noStar
  simp only [checkBuiltinCall, F.newKind, F.newSplit, F.newRow]
  repeat (first | refine wpAny_loadPart_at hC ?_ | (refine wpAny_isSubtype_exc hC ?_; rw [hB]) | refine wpAny_staticBase_exc hC ?_ | refine wpAny_madeBy_exc hC ?_ | simp only [bne_self_eq_false, Bool.false_eq_true, if_false] | wp_step)
  exact hq
theorem xq_new {R : Result → Shared → Prop} {rest : List Value} (hC : h.get? C = some (excClassObj nm q C N bs bm hdct sn sub ab col dd k0 k1 k2 k3 k5 "Exception.__new__")) (hB : (Value.ref C :: bm).contains (.type "Exception") = true) (hA : (Value.ref C :: bm).contains (.type "AttributeError") = false) (hN : (Value.ref C :: bm).contains (.type "NameError") = false) (hrest : rest.length ≤ sizeLine)
    (hq : R (.ok (.ret (.ref (h.objs.size + 1)))) ⟨(h.push { cls := .type "tuple", data := .seq rest.toArray }).push { cls := .ref C, data := .fields #[.ref h.objs.size, .none, .none, .none, .bool false, .none] }, g, d, t, os⟩) :
    codeAny (model prog w) A (.builtin "Exception.__new__" ⟨.ref C :: rest, []⟩) R ⟨h, g, d, t, os⟩ := by
  have F := PySem.F.excBase_Exception
  have n1 := F.ends
  refine codeAny_builtinAt F.entry ?_
  unfold Builtin.«BaseException.__new__»
  refine PySem.wpAt_bind ?_
  show PySem.wpAt _ _ _ (stack >>= _) _ _ _
  refine PySem.wpAt_bind (PySem.wpAt_stack fun p below => PySem.wpAt_of_wpAny ?_)
  wp_walk
  refine PySem.wpAt_of_wpAny ?_
  rw [F.owner]
  repeat (first | with_reducible refine wpAny_madeHere_exc F.canon hC ?_ | with_reducible refine wpAny_loadPart_at hC ?_ | (with_reducible refine wpAny_isSubtype_exc hC ?_; first | rw [hB] | rw [hA] | rw [hN]) | wp_step)
  show R _ _
  rw [Heap.size_push]
  exact hq
theorem xq_type {K : Frag} {rest : List Value} {fI : Addr} {oI : Obj} {Q : Fin → Shared → Prop} (hC : h.get? C = some (excClassObj nm q C N bs bm hdct sn sub ab col dd k0 k1 k2 k3 k5 "Exception.__new__")) (hB : (Value.ref C :: bm).contains (.type "Exception") = true) (hA : (Value.ref C :: bm).contains (.type "AttributeError") = false) (hN : (Value.ref C :: bm).contains (.type "NameError") = false) (hrest : rest.length ≤ sizeLine)
    (X : K.In h) (hi : findIn K (.ref C) "__init__" = some (some (.ref fI))) (hfI : h.get? fI = some oI) (hfc : oI.cls = .type "function")
    (hq : ∀ h' e, Heap.MadeExcOf h h' e (.ref C) rest → wpAny (model prog w) A (call (.ref fI) (.ref e :: rest)) (fun r s' => r = .none ∧ Q (.done (.ret (.ref e))) s') E ⟨h', g, d, t, os⟩) :
    wpAny (model prog w) A (Builtin.«type.__call__» ⟨.ref C :: rest, []⟩) Q E ⟨h, g, d, t, os⟩ := by
  repeat (first | with_reducible refine wpAny_loadPart_at hC ?_ | with_reducible refine wpAny_madeBy_exc hC ?_ | wp_step)
  refine codeAny_call_builtin_code (Code.quiet_builtin _ PySem.F.excBase_Exception.quiet) (xq_check hC hB ?_)
  refine xq_new hC hB hA hN hrest ?_
  show wpAny _ _ _ _ _ _
  have k1 : ∀ b o, h.get? b = some o → ((h.push { cls := .type "tuple", data := .seq rest.toArray }).push { cls := .ref C, data := .fields #[.ref h.objs.size, .none, .none, .none, .bool false, .none] }).get? b = some o := fun b o e => Heap.get?_push_of_some _ (Heap.get?_push_of_some _ e)
  have hC1 := k1 _ _ hC
  have hget : ((h.push { cls := .type "tuple", data := .seq rest.toArray }).push { cls := .ref C, data := .fields #[.ref h.objs.size, .none, .none, .none, .bool false, .none] }).get? (h.objs.size + 1) = some { cls := .ref C, data := .fields #[.ref h.objs.size, .none, .none, .none, .bool false, .none] } := by heap_get
  have hcC : (Value.ref C :: bm).contains (.ref C) = true := by simp
  unfold isInstance
  repeat (first | with_reducible refine wpAny_loadPart_at hget ?_ | (with_reducible refine wpAny_isSubtype_exc hC1 ?_; rw [hcC]) | wp_step)
  refine (looks_findIn (X.keeps k1) hi).here ?_
  refine wpAny_holding (wpAny_bind ?_)
  unfold bindSpecial
  refine wpAny_bind (wpAny_typeOf (T := "function") ⟨_, k1 _ _ hfI, hfc⟩ ?_)
  rw [if_pos (by decide)]
  refine wpAny_pure (wpAny_bind (wpAny_mono (hq _ (h.objs.size + 1) ⟨k1, Heap.get?_none_of_le (Nat.le_succ _), h.objs.size, hget, Heap.get?_none_of_le (Nat.le_refl _), ?_⟩) (fun r s' hr => ?_) fun _ _ x => x))
  · exact Heap.get?_push_of_some _ (Heap.get?_push_at rfl rfl)
  · obtain ⟨rfl, hQ⟩ := hr
    wp_walk
    exact hQ
theorem xq_call {K : Frag} {rest : List Value} {fI : Addr} {oI : Obj} {Q : Value → Shared → Prop} (hC : h.get? C = some (excClassObj nm q C N bs bm hdct sn sub ab col dd k0 k1 k2 k3 k5 "Exception.__new__")) (hB : (Value.ref C :: bm).contains (.type "Exception") = true) (hA : (Value.ref C :: bm).contains (.type "AttributeError") = false) (hN : (Value.ref C :: bm).contains (.type "NameError") = false) (hrest : rest.length ≤ sizeLine)
    (X : K.In h) (hi : findIn K (.ref C) "__init__" = some (some (.ref fI))) (hfI : h.get? fI = some oI) (hfc : oI.cls = .type "function")
    (hq : ∀ h' e, Heap.MadeExcOf h h' e (.ref C) rest → wpAny (model prog w) (A.under (.builtin "type.__call__" ⟨.ref C :: rest, []⟩)) (call (.ref fI) (.ref e :: rest)) (fun r s' => r = .none ∧ Q (.ref e) s') E ⟨h', g, d, t, os⟩) :
    wpAny (model prog w) A (call (.ref C) rest) Q E ⟨h, g, d, t, os⟩ := by
  have f1 := tc_lookup
  have f2 := tc_bind (.ref C)
  have hT : (⟨h, g, d, t, os⟩ : Shared).TypeIs (.ref C) "type" := ⟨_, hC, rfl⟩
  refine wpAny_call (codeAny_of_tree ?_)
  show wpAny _ _ (callAny (.ref C) _) _ _ _
  repeat (any_goals (first | assumption | with_reducible refine wpAny_loadPart_at hC ?_ | wp_step))
  refine ⟨rfl, ?_⟩
  exact codeAny_call_builtin_at (Code.quiet_builtin _ (by decide +kernel)) entry_typeCall (wpAny_check_type_call_sub hC (xq_type hC hB hA hN hrest X hi hfI hfc fun h' e hm => hq h' e hm))
theorem xq_checkI {M : Model} {e : Addr} {oe : Obj} {rest : List Value} {Q : Unit → Shared → Prop} (hC : h.get? C = some (excClassObj nm q C N bs bm hdct sn sub ab col dd k0 k1 k2 k3 k5 "Exception.__new__")) (hB : (Value.ref C :: bm).contains (.type "Exception") = true) (he : h.get? e = some oe) (hcls : oe.cls = .ref C) (hq : Q () ⟨h, g, d, t, os⟩) :
    wpAny M A (checkBuiltinCall "Exception.__init__" ⟨.ref e :: rest, []⟩) Q E ⟨h, g, d, t, os⟩ := by
  have F := PySem.F.excBase_Exception
  have n1 := F.noStar
  simp only [checkBuiltinCall, F.initKind, F.initSplit, F.initRow]
  repeat (first | (with_reducible refine wpAny_loadPart_at he ?_; rw [hcls]) | with_reducible refine wpAny_loadPart_at hC ?_ | (with_reducible refine wpAny_isSubtype_exc hC ?_; rw [hB]) | wp_step)
  refine wpAny_onRaise ?_
  rw [show ∀ (a b : String) (n : Nat), Bind.check ⟨.positional, "*", "Exception", .self, [⟨"args", .varPos, false⟩]⟩ a b n (List.map (fun x => x.fst) ({ pos := Value.ref e :: rest } : Args).kw) = pure () from fun a b n => check_star_args _ _ _ _ _ _]
  exact wpAny_pure hq
theorem xq_init {e t0 : Addr} {v : Value} {Q : Value → Shared → Prop} (hC : h.get? C = some (excClassObj nm q C N bs bm hdct sn sub ab col dd k0 k1 k2 k3 k5 "Exception.__new__")) (hB : (Value.ref C :: bm).contains (.type "Exception") = true) (he : h.get? e = some { cls := .ref C, data := .fields #[.ref t0, .none, .none, .none, .bool false, .none] })
    (hq : ∀ h' t1, h'.get? e = some { cls := .ref C, data := .fields #[.ref t1, .none, .none, .none, .bool false, .none] } → (∀ b o, b ≠ e → h.get? b = some o → h'.get? b = some o) → Q .none ⟨h', g, d, t, os⟩) :
    wpAny (model prog w) A (call (.builtin "Exception.__init__") [.ref e, v]) Q E ⟨h, g, d, t, os⟩ := by
  have F := PySem.F.excBase_Exception
  refine wpAny_call (codeAny_call_builtin F.init.plain F.initEntry (xq_checkI hC hB he rfl ?_))
  wp_walk
  refine hq _ h.objs.size ?_ fun b o hb e => ?_
  · rw [Heap.get?_update_self _ (Heap.get?_push_of_some _ he) rfl]
    first | rfl | (simp; done)
  · rw [Heap.get?_update_other _ _ (Ne.symm hb)]
    exact Heap.get?_push_of_some _ e
end
end Mine
end
section
namespace Mine
open PySem.Spec PySem.Calls PySem.Builtin PySem.Builtin.ObjectAttr PySem.Builtin.Getset_descriptor
section
variable {prog : Program} {w : World} {A : Around} {s : Shared} {K : Frag} {x C L : Addr} {h₀ : Heap} {m : Str → Option Value} {news : List (Addr × Obj)} {ox : Obj} {od : Option Obj} {name : Str} {v : Value} {R : Result → Shared → Prop} {tk : Tok}
theorem exc_osa {cd : ClassData} (hc : clsIn K C = some cd) (hr : refuseLoop (.ref x) "__setattr__" cd.mro = pure ()) (ho : cd.mro.contains (.type "object") = true) (X : K.In s.heap) (I : InstAt s.heap x ox C od) (ht : takerIn K C name = some none)
    (h : ∀ b, wpAny (model prog w) A.in1 (storeInOwnDict (.ref x) (.ref C) (.str name tk) name v b) (fun fin s' => match fin with | .done f => R (.ok f) s' | .again c' => c'.quiet = true ∧ codeAny (model prog w) A c' R s') (fun e s' => R (.error e) s') s) :
    codeAny (model prog w) A (.call (.builtin "object.__setattr__") ⟨[.ref x, .str name tk, v], []⟩) R s := by
  have SF := PySem.F.store_object
  have ne : cd.mro.isEmpty = false := by cases q : cd.mro with | nil => rw [q] at ho; cases ho | cons _ _ => rfl
  have sub : Looks (model prog w) s.heap (isInstance (.ref x) (.type "object")) true := I.type.andThen (looks_mroIn X (by unfold mroIn; rw [hc, Option.bind_some, if_neg (by rw [ne]; decide), ho]))
  refine codeAny_call_builtin SF.slot.plain SF.entry (@check_slot (model prog w) _ _ s "object.__setattr__" "object" "__setattr__" (.ref x) [.str name tk, v] [] _ SF.kind SF.split sub (SF.args (.ref x) (.str name tk) v) ?_)
  obtain ⟨attr, ha, hq⟩ := Option.bind_eq_some_iff.mp ht
  have hm : Looks (model prog w) s.heap (mroOf (.ref C)) cd.mro := (looks_clsIn X hc).andThen .now
  have L3 : Looks (model prog w) s.heap (storeTaker? attr) none := by
    cases attr with
    | none => cases hq; exact .now
    | some a =>
      obtain ⟨b, hb, hq⟩ := Option.map_eq_some_iff.mp hq
      refine (looks_takesIn X hb).andThen ?_
      cases b
      · exact .now
      · cases hq
  rw [osa_eq, refuse_eq]
  refine wpAny_bind (wpAny_bind (I.type.here (wpAny_bind (hm.here ?_))))
  rw [hr]
  exact wpAny_pure (wpAny_bind (I.type.here (wpAny_bind ((looks_findIn X ha).here (wpAny_bind (L3.here (h _)))))))
theorem st_tail {A' : Around} {od od' : Obj} {dx : Addr} {pre post : List (Addr × Obj)} {es : List DictEntry} {n : Nat} {E' : Value → Shared → Prop} {Qf : Fin → Shared → Prop} (F : Fr h₀ L s.heap m) (N : News h₀ L s.heap (pre ++ (dx, od) :: post))
    (hl : (lookIn name od).isSome = true) (h1 : ∀ p ∈ pre, p.1 ≠ dx) (h2 : ∀ p ∈ post, p.1 ≠ dx)
    (e : Obj.putName name (PyData.keyHash w.params name) (.str name s.toks) v od = od') (e' : od'.data = .dict es.toArray n) (hz : es.length ≤ 1000)
    (h : ∀ h', Fr h₀ L h' m → News h₀ L h' (pre ++ (dx, od') :: post) → Qf (.done (.ret .none)) { s with heap := h', toks := s.toks + 1 }) :
    wpAny (model prog w) A' (storeInDict dx (.str name tk) name v) Qf E' s := by
  obtain ⟨U1, U2⟩ := news_upd (f := Obj.putName name (PyData.keyHash w.params name) (.str name s.toks) v) F N h1 h2 e (by obtain ⟨_, _, dd, _⟩ := od'; cases e'; rfl)
  have D := (N (dx, od) (by simp)).1
  have D' := (U2 (dx, od') (by simp)).1
  refine wpAny_bind (wpAny_pure (wpAny_bind ?_))
  unfold nsSet
  refine wpAny_bind (wpAny_bind (wpAny_askSetting (wpAny_pure (wpAny_bind (wpAny_mkText (wpAny_bind (wpAny_loadPart D ?_)))))))
  unfold lookIn at hl
  split at hl
  · rename_i es₀ n₀ q
    rw [q]
    dsimp only
    have c : (!es₀.any (·.key.isStr name) && es₀.any (·.refKey)) = false := by
      rw [← Array.any_toList, ← Array.any_toList]
      split at hl
      · rename_i en he
        rw [List.any_eq_true.mpr ⟨en, List.mem_of_find?_eq_some he, List.find?_some he⟩]; rfl
      · split at hl
        · cases hl
        · rename_i z; rw [Bool.not_eq_true] at z; rw [z, Bool.and_false]
    rw [aRefKeyMayBeTheName_at, c]
    refine wpAny_updatePart D ?_
    refine wpAny_bind (wpAny_lookBehind D' (by rw [e']; exact pastItsLine_dict (by rw [List.size_toArray, sizeLine_eq]; omega)) ?_)
    exact wpAny_pure (h _ U1 U2)
  · cases hl
theorem exc_set {cd : ClassData} {od od' : Obj} {dx : Addr} {pre post : List (Addr × Obj)} {es : List DictEntry} {n : Nat} {E : Value → Shared → Prop} {Q : Unit → Shared → Prop} (F : Fr h₀ L s.heap m) (N : News h₀ L s.heap (pre ++ (dx, od) :: post)) (X : K.In s.heap)
    (I : InstAt s.heap x ox C (some od)) (hd : ox.dict = some dx) (hs : findIn K (.ref C) "__setattr__" = some (some (.builtin "object.__setattr__"))) (hc : clsIn K C = some cd) (hD : cd.hasDict = true) (hr : refuseLoop (.ref x) "__setattr__" cd.mro = pure ()) (ho : cd.mro.contains (.type "object") = true) (ht : takerIn K C name = some none)
    (hl : (lookIn name od).isSome = true) (h1 : ∀ p ∈ pre, p.1 ≠ dx) (h2 : ∀ p ∈ post, p.1 ≠ dx)
    (e : Obj.putName name (PyData.keyHash w.params name) (.str name (s.toks + 1)) v od = od') (e' : od'.data = .dict es.toArray n) (hz : es.length ≤ 1000)
    (h : ∀ h', Fr h₀ L h' m → News h₀ L h' (pre ++ (dx, od') :: post) → Q () { s with heap := h', toks := s.toks + 1 + 1 }) :
    wpAny (model prog w) A (setAttr (.ref x) name v) Q E s := by
  refine set_plain X I hs (exc_osa (s := { s with toks := s.toks + 1 }) hc hr ho X I ht fun b => ?_)
  obtain ⟨hx, hcl, hn, -⟩ := I
  obtain ⟨oc, odi, oda, osl⟩ := ox
  dsimp only at hcl hd
  subst hcl hd
  refine wpAny_bind (wpAny_pure (wpAny_bind (wpAny_bind (wpAny_loadPart hx (wpAny_bind (Looks.here (s := { s with toks := s.toks + 1 }) (looks_clsIn X hc) ?_))))))
  rw [hD]
  exact wpAny_pure (a := some dx) (st_tail (s := { s with toks := s.toks + 1 }) F N hl h1 h2 e e' hz fun h' F' N' => h h' F' N')
theorem exc_set0 {cd : ClassData} {fs : Array Value} {E : Value → Shared → Prop} {Q : Unit → Shared → Prop} (F : Fr h₀ L s.heap m) (N : News h₀ L s.heap ((x, { cls := .ref C, data := .fields fs }) :: news)) (X : K.In s.heap)
    (hne : ∀ p ∈ news, p.1 ≠ x) (hs : findIn K (.ref C) "__setattr__" = some (some (.builtin "object.__setattr__"))) (hc : clsIn K C = some cd) (hD : cd.hasDict = true) (hr : refuseLoop (.ref x) "__setattr__" cd.mro = pure ()) (ho : cd.mro.contains (.type "object") = true) (ht : takerIn K C name = some none)
    (h : ∀ h' dx, Fr h₀ L h' m → News h₀ L h' ((dx, dictOf [⟨PyData.keyHash w.params name, .str name (s.toks + 1), v⟩] 1) :: (x, { cls := .ref C, dict := some dx, data := .fields fs }) :: news) → (∀ p ∈ (x, ({ cls := .ref C, dict := some dx, data := .fields fs } : Obj)) :: news, p.1 ≠ dx) → Q () { s with heap := h', toks := s.toks + 1 + 1 }) :
    wpAny (model prog w) A (setAttr (.ref x) name v) Q E s := by
  have hx := (N _ (.head _)).1
  have I : InstAt s.heap x { cls := .ref C, data := .fields fs } C none := ⟨hx, rfl, rfl, trivial⟩
  refine set_plain X I hs (exc_osa (s := { s with toks := s.toks + 1 }) hc hr ho X I ht fun b => ?_)
  refine wpAny_bind (wpAny_pure (wpAny_bind (wpAny_bind (wpAny_loadPart hx (wpAny_bind (Looks.here (s := { s with toks := s.toks + 1 }) (looks_clsIn X hc) ?_))))))
  rw [hD]
  have N1 := News.push F N { cls := .type "dict", data := .dict #[] }
  have F1 := F.push ({ cls := .type "dict", data := .dict #[] } : Obj)
  have lt : ∀ p ∈ (x, ({ cls := .ref C, data := .fields fs } : Obj)) :: news, p.1 ≠ s.heap.objs.size := fun p hp => Nat.ne_of_lt (Heap.lt_size (N p hp).1)
  obtain ⟨F2, N2⟩ := news_upd (pre := [(s.heap.objs.size, _)]) (f := fun o => { cls := o.cls, dict := some s.heap.objs.size, data := o.data, slots := o.slots }) F1 N1 (by intro p hp; rw [List.mem_singleton.mp hp]; exact Ne.symm (lt _ (.head _))) hne rfl rfl
  refine wpAny_bind (wpAny_alloc (wpAny_bind (wpAny_update (Heap.get?_push_of_some _ hx) ?_)))
  have lt2 : ∀ p ∈ (x, ({ cls := .ref C, dict := some s.heap.objs.size, data := .fields fs } : Obj)) :: news, p.1 ≠ s.heap.objs.size := fun p hp => (List.mem_cons.mp hp).elim (fun z => by rw [z]; exact lt (x, { cls := .ref C, data := .fields fs }) (.head _)) fun z => lt _ (.tail _ z)
  exact wpAny_pure (a := some s.heap.objs.size) (st_tail (pre := []) (es := [⟨PyData.keyHash w.params name, .str name (s.toks + 1), v⟩]) (n := 1) (s := { s with heap := _, toks := s.toks + 1 }) F2 N2 rfl (fun _ hp => nomatch hp) lt2 rfl rfl (by simp) fun h' F' N' => h h' _ F' N' lt2)
end
end Mine
end
section
namespace Mine
open PySem.Spec PySem.Calls
noncomputable def Raises (prog : Program) (w : World) (p : Program) (loose : List Str) (mean : ExcName → Option Value) (mg mb : Str → Option Value) (dp un : Nat) (gd : Option (List Code)) (f : Addr) (K : Str) (news : List (Addr × Obj)) : Prop :=
  ∀ {cn : Str} {cs : Scope} {a : Addr} {ccd : Value} {outer : List Env} {A₀ : Around} {base g : Heap} {L : Addr} {m : Str → Option Value} {s : Shared} {E : Value → Shared → Prop},
    Below A₀ base outer g → Fr g L s.heap m → (Mine.kmk.heap_1 w.params).In g → News g L s.heap news → Top p loose mean mg mb g → cs.kind = .function → s.gens = #[] → base.get? 0 = some (bnObj w.params) → (Mine.kmk.heap_1 w.params).In base →
    (∀ e dd od tk G h' tk', RsS base G (envOf cn cs L a ccd :: outer) e (.ref 59) dd ((dd, od) :: news) h' → G.UpToSlots h' → lookIn "kind" od = some (some (.str K tk)) → Fr g L G m → E (.ref e) { s with heap := h', toks := tk' }) →
    wpAny (model prog w) (ktrTop dp un gd cn cs L a ccd [] outer) (call (.ref f) []) (fun _ _ => False) E s
theorem news_drop2 {h₀ h : Heap} {L : Addr} {a b c : Addr × Obj} {l : List (Addr × Obj)} (N : News h₀ L h (a :: b :: c :: l)) : News h₀ L h (a :: l) := fun p hp => N p (by
  rcases List.mem_cons.mp hp with rfl | hp
  · exact .head _
  · exact .tail _ (.tail _ (.tail _ hp)))
theorem Raises.use {prog : Program} {w : World} {p : Program} {loose : List Str} {mean : ExcName → Option Value} {mg mb : Str → Option Value} {dp un : Nat} {gd : Option (List Code)} {f : Addr} {K : Str} {news : List (Addr × Obj)}
    {cn : Str} {cs : Scope} {a : Addr} {ccd : Value} {outer : List Env} {A₀ : Around} {base g : Heap} {L : Addr} {m : Str → Option Value} {s : Shared} {Q E : Value → Shared → Prop}
    (hc : Raises prog w p loose mean mg mb dp un gd f K news)
    (B : Below A₀ base outer g) (F : Fr g L s.heap m) (X : (Mine.kmk.heap_1 w.params).In g) (N : News g L s.heap news) (T : Top p loose mean mg mb g) (hk : cs.kind = .function) (hg : s.gens = #[]) (hb : base.get? 0 = some (bnObj w.params)) (XB : (Mine.kmk.heap_1 w.params).In base)
    (h : ∀ e dd od tk G h' tk', RsS base G (envOf cn cs L a ccd :: outer) e (.ref 59) dd ((dd, od) :: news) h' → G.UpToSlots h' → lookIn "kind" od = some (some (.str K tk)) → Fr g L G m → E (.ref e) { s with heap := h', toks := tk' }) :
    wpAny (model prog w) (ktrTop dp un gd cn cs L a ccd [] outer) (call (.ref f) []) Q E s :=
  wpAny_mono (hc B F X N T hk hg hb XB h) (fun _ _ x => x.elim) fun _ _ x => x
theorem findObj_own {KK : Frag} {C : Addr} {od : Obj} {name : Str} {v : Value} {cd : ClassData} (h1 : clsIn KK C = some cd) (h2 : findIn KK (.ref C) name = some none) (h3 : cd.hasDict = true) (h : lookIn name od = some (some v)) : findObj KK C (some od) name = some (.value v) := by
  unfold findObj PySem.W.ownOf
  rw [h1, h2]
  simp only [Option.bind_some, h3, if_true, h]
theorem cls59 {P : Params} : ∃ cd, clsIn (Mine.kmk.heap_1 P) 59 = some cd ∧ cd.hasDict = true := ⟨_, rfl, rfl⟩
theorem kind59 {P : Params} : findIn (Mine.kmk.heap_1 P) (.ref 59) "kind" = some none := by rfl
theorem ga59 {P : Params} : findIn (Mine.kmk.heap_1 P) (.ref 59) "__getattribute__" = some (some (.builtin "BaseException.__getattribute__")) := by rfl
theorem ge59 {P : Params} : findIn (Mine.kmk.heap_1 P) (.ref 59) "__getattr__" = some none := by rfl
theorem check_ga {M : Model} {A : Around} {E : Value → Shared → Prop} {nameV : Value} {Q : Unit → Shared → Prop} {s : Shared} {a C : Addr} {o : Obj} {nm q : Str} {N : Addr} {bs bm : List Value} {hdct : Bool} {sn : List Str} {sub : List Value} {ab : Bool} {col : Option Bool} {ddC : Option Addr} {k0 k1 k2 k3 k5 : Option Value} {newId : String}
    (hC : s.heap.get? C = some (excClassObj nm q C N bs bm hdct sn sub ab col ddC k0 k1 k2 k3 k5 newId)) (hbase : bm.contains (.type "BaseException") = true)
    (hx : s.heap.get? a = some o) (hc : o.cls = .ref C) (hq : Q () s) : wpAny M A (checkBuiltinCall "BaseException.__getattribute__" ⟨[.ref a, nameV], []⟩) Q E s := by
  have hk : builtinKind "BaseException.__getattribute__" = some .slot := by decide +kernel
  have hsplit : splitId "BaseException.__getattribute__" = some ("BaseException", "__getattribute__") := by decide +kernel
  have hcB : (Value.ref C :: bm).contains (.type "BaseException") = true := by rw [List.contains_cons, hbase, Bool.or_true]
  have ha := PySem.F.args_bexc_ga (.ref a) nameV
  obtain ⟨h, g, d, t, os⟩ := s
  simp only [checkBuiltinCall, hk, hsplit]
  refine wpAny_bind ?_
  · unfold isInstance
    repeat (first | (with_reducible refine wpAny_loadPart_at hx ?_; rw [hc]) | (with_reducible refine wpAny_isSubtype_exc hC ?_; rw [hcB]) | wp_step)
    exact hq
theorem fault_get {prog : Program} {w : World} {A : Around} {E : Value → Shared → Prop} {s : Shared} {g : Heap} {L : Addr} {m : Str → Option Value} {news : List (Addr × Obj)} {e dd : Addr} {oe od : Obj} {ws : Array Value} {K : Str} {tk : Tok} {expr : Bool} {Q : Value → Shared → Prop}
    (FF : Fr g L s.heap m) (X : (Mine.kmk.heap_1 w.params).In g) (N : News g L s.heap ((e, oe) :: (dd, od) :: news)) (hc : ClsD (.ref 59) (some dd) oe) (hda : oe.data = .fields ws) (hK : lookIn "kind" od = some (some (.str K tk)))
    (h : Q (.str K tk) { s with toks := s.toks + 1 }) : wpAny (model prog w) A (getAttr (.ref e) "kind" expr) Q E s := by
  have X' := X.keeps FF.keep
  have I : InstAt s.heap e oe 59 (some od) := ⟨(N _ (.head _)).1, hc.1, by unfold notCls; rw [hda], by rw [hc.2]; exact (N _ (.tail _ (.head _))).1⟩
  obtain ⟨nm, q', NN, bs, bm, hdct, sn, sub, ab, col, ddc, k0, k1, k2, k3, k5, newId, hC, hbase, -⟩ := kts_cls (C := 59) (T := "Exception") X' (by kts_isx)
  have hx := I.at_
  have hcc := I.cls
  have f3 := PySem.F.excAttr_ValueError.ga.bind (.ref e)
  have hx0 : (expr && onTheHeap (Value.builtin "BaseException.__getattribute__")) = false := by cases expr <;> rfl
  have hx2 : (Value.builtin "BaseException.__getattribute__" == Value.builtin "object.__getattribute__") = false := by decide +kernel
  have hx1 : (onTheHeap (Value.ref 59) && Value.builtin "BaseException.__getattribute__" == Value.builtin "object.__getattribute__") = false := by rw [hx2]; rfl
  have La := looks_findIn (M := model prog w) X' ga59
  have Lb := looks_findIn (M := model prog w) X' ge59
  obtain ⟨cd, c1, c2⟩ := cls59 (P := w.params)
  have Lf := looks_find (M := model prog w) X' I (findObj_own c1 kind59 c2 hK)
  have Lt := I.type (M := model prog w)
  obtain ⟨hh, g, d, t, os⟩ := s
  unfold getAttr
  repeat (any_goals (first | assumption | (with_reducible refine wpAny_loadPart_at hx ?_; rw [hcc]) | ((with_reducible show wpAny _ _ (typeLookup _ _) _ _ _); first | refine La _ _ _ _ (fun _ _ z => z) ?_ | refine Lb _ _ _ _ (fun _ _ z => z) ?_) | wp_step))
  refine codeAny_call_builtin PySem.F.excAttr_ValueError.ga.plain PySem.F.entry_bexc_ga (check_ga hC hbase hx hcc ?_)
  repeat (any_goals (first | assumption | (with_reducible refine wpAny_loadPart_at hx ?_; rw [hcc]) | ((with_reducible show wpAny _ _ (PySem.Builtin.ObjectAttr.find _ _ _) _ _ _); refine Lf _ _ _ _ (fun _ _ z => z) ?_) | wp_step))
set_option maxRecDepth 100000 in
set_option maxHeartbeats 8000000 in
theorem told_ok {prog : Program} {w : World} {p : Program} {loose : List Str} {mean : ExcName → Option Value} {mg mb : Str → Option Value} {dp un : Nat} {gd : Option (List Code)} {cn : Str} {cs : Scope} {a : Addr} {ccd : Value} {cl : List (Str × Addr)} {outer : List Env} {A₀ : Around} {base h₀ : Heap} {L : Addr} {m : Str → Option Value} {s : Shared} {Q E : Value → Shared → Prop} {news : List (Addr × Obj)}
    (B : Below A₀ base outer h₀) (F : Fr h₀ L s.heap m) (X : (Mine.kmk.heap_1 w.params).In h₀) (N : News h₀ L s.heap news) (T : Top p loose mean mg mb h₀) (hk : cs.kind = .function)
    (XB : (Mine.kmk.heap_1 w.params).In base) (TB : Top p loose mean mg mb base) (D : KtsDicts (outer.filterMap (·.frame)) h₀) (T0 : KtsTurn (outer.filterMap (·.frame)) h₀ h₀)
    (hg : s.gens = #[]) (hb : base.get? 0 = some (bnObj w.params)) {f : Addr} {K : Str} {oc : Value} {od : Option Addr} {fd : FuncData} {sl : Array (Option Value)} (hfm : (f, (⟨oc, od, .func fd, sl⟩ : Obj)) ∈ news) (hcall : Raises prog w p loose mean mg mb (dp + 1) (un + 3) gd f K news)
    (hdp : dp + 2 < recursionLimit) (hun : un + 20 < cLine)
    (ret : ∀ T tT t1 t2 g' h' tk', KtsTurn (outer.filterMap (·.frame)) h₀ g' → Fr g' L h' m → News g' L h' ((T, tup #[.str "fault" t1, .str K t2] tT) :: news) → AllLt T news → Below A₀ base outer g' → (Mine.kmk.heap_1 w.params).In g' → Top p loose mean mg mb g' → KtsDicts (outer.filterMap (·.frame)) g' →
      Q (.ref T) { s with heap := h', toks := tk' }) :
    wpAny (model prog w) (ktrTop dp un gd cn cs L a ccd cl outer) (call (.ref 225) [.ref f]) Q E s := by
  refine wpAny_call ?_
  k_dflt (refine' code_defSX ?k1 ?k2 ?k3 ?k4 ?k5 ?XB ?TB ?D ?T0 ?kA ?kF ?kK ?k6 ?k7 ?k8 ?k9 ?kB ?_ ?c2 ?c3 ?c4 ?c5; (case kA => exact rfl); (case kF => exact rfl); (case kK => assumption); (case k2 => k_asm); (case k1 => k_asm); (case XB => assumption); (case TB => assumption); (case D => assumption); (case T0 => assumption); (case k3 => k_asm); (case k4 => k_asm); (case k5 => k_asm); (case k6 => k_is); (case k7 => k_is); (case k8 => ktr_room); (case k9 => exact BindsTo.of_eq rfl); (case kB => exact locs rfl); (case c2 => exact rfl); (case c3 => exact rfl); (case c4 => exact rfl); (case c5 => decide); k_whole; intro g' L' h' FG' F' N' B' X' T' D'; (try dsimp only); (try k_fold))
  clear B F X N T D
  have hbg := B'.stays _ _ hb
  obtain ⟨nm, q', NN, bs, bm, hdct, sn, sub, ab, col, ddc, k0, k1, k2, k3, k5, newId, hC, hbase, -⟩ := kts_cls (C := 59) (T := "Exception") XB (by kts_isx)
  (repeat' (first | (k_unfold; (try dsimp only)) | (k_end; wrow_close) | ((with_reducible show wpAny _ _ (noteFrame (Value.ref _) _) _ _ _); (k_dflt (refine caughtDS (by k_asm) (by with_reducible assumption) (by with_reducible assumption) (by with_reducible assumption) (by assumption) (by assumption) (by assumption) KtsTurn.refl (by k_is) (by assumption) (by assumption) ?_); intro h' g' oe' ws' tk' T' F' N' hc' hd' B' X' P' D')) | (((with_reducible show wpAny _ _ (call (Value.ref _) []) _ _ _); k_dflt (refine Raises.use (by with_reducible assumption) (by k_asm) (by k_asm) (by k_asm) (by k_asm) (by k_asm) (by first | exact rfl | assumption) (by assumption) (by assumption) (by assumption) ?_); intro e' dd' od' tke' G' h' tk' R' U' hK' FG')) | ((with_reducible show wpAny _ _ (callWith _ (Value.ref _) _ _ _) _ _ _); (k_dflt (refine callWith_F0 (FnAt.of (by k_asm) (by assumption)) ?_); (try dsimp only [List.nil_append, List.cons_append]))) | ((with_reducible show wpAny _ _ (getAttr (Value.ref _) _ _) _ _ _); (k_dflt (refine fault_get (by k_asm) (by k_asm) (by k_asm) (by assumption) (by assumption) (by assumption) ?_))) | ((with_reducible show wpAny _ _ (newTuple _) _ _ _); (k_dflt (refine tuple_o (by k_asm) (by k_asm) (by size_fits) ?_); intro Dw7 hw7 ow7 Fw7 Nw7 lw7)) | ((with_reducible show wpAny _ _ (execs (_ :: _) _) _ _ _); ((with_reducible refine Mine.gen_tok ?_); intro tk; (with_reducible refine wpAny_execs_cons ?_); (try dsimp only))) | walk1 | (dsimp only; walk1) | (leave1; walk_say "STEP leave1"; try dsimp only) | fail "no step"))
  exact ret _ _ _ _ _ _ _ (by with_reducible assumption) (by k_asm) (news_drop2 (by k_asm)) (by first | simp only [*] | exact allLt_suf (by with_reducible assumption) (fun p hp => by first | exact hp | exact .tail _ hp | exact .tail _ (.tail _ hp) | exact .tail _ (.tail _ (.tail _ hp)) | exact .tail _ (.tail _ (.tail _ (.tail _ hp))))) (by with_reducible assumption) (by with_reducible assumption) (by with_reducible assumption) (by with_reducible assumption)
end Mine
end
section
namespace Mine
open PySem.Spec PySem.Calls PyProof.Rows.LCg PyProof.Rows.LCt
section
variable {prog : Program} {w : World} {A : Around} {E : Value → Shared → Prop} {s : Shared} {h₀ : Heap} {L : Addr} {m : Str → Option Value} {env : Env}
noncomputable def KeyP (prog : Program) (w : World) (kvs : List ((Int ⊕ Str) × Value)) (i : Nat) (v : Value) : Prop := ∃ k x, kvs[i]? = some (k, x) ∧ (mix prog w).is k v = true
noncomputable def SrcK (prog : Program) (w : World) (A : Around) (h₀ : Heap) (L : Addr) (m : Str → Option Value) (env : Env) (ct elt : PySem.Expr) (x : Str) (scope : Scope) (cl : List (Str × Addr)) (Fin : Shared → List Value → List (Addr × Obj) → Prop) (xv : Value) (s₁ : Shared) : Prop :=
  ∃ d o kvs news, xv = .ref d ∧ A.handled = none ∧ Fr h₀ L s₁.heap m ∧ News h₀ L s₁.heap news ∧ (d, o) ∈ news ∧ o.IsDictOf (mix prog w) kvs ∧ (d == sysModules) = false ∧ kvs.length ≤ sizeLine ∧
    ∀ s₂ : Shared, (∃ h, s₂ = { s₁ with heap := h }) → CompRestT prog w A h₀ L m env ct elt x scope cl s₂ (fun nw => (d, o) ∈ nw) (KeyP prog w kvs) (Fin s₂) kvs.length 0 [] news
theorem ListComp_K {ct elt iter : PySem.Expr} {x : Str} {px : Pos} {scope : Scope} {cl : List (Str × Addr)} {pos : Pos} {Q : Value → Shared → Prop} (_F₀ : Fr h₀ L s.heap m)
    (hclos : closureFor scope env = pure cl) (hcell : ∀ y ∈ scope.names, y.2 ≠ .cell) (hkind : scope.kind = .function)
    (hnames : ∀ y ∈ scope.names, y.2 = .local → scope.names.lookup y.1 = some .local) (hx : scope.names.lookup x = some .local)
    (h : wpAny (model prog w) A (eval iter env) (SrcK prog w A h₀ L m env ct elt x scope cl (fun s₂ => FinE h₀ L m s₂ Q)) E s)
    (hs : ∀ x, foldedSetIterable iter env x = pure x := by intro _; rfl) :
    wpAny (model prog w) A (eval (.ListComp elt [⟨.Name x px, iter, [ct], 0⟩] scope pos) env) Q E s := by
  rw [eval_ListComp]
  refine wpAny_comprehension_free (use := none) rfl hs hclos hkind hnames (wpAny_mono h (fun xv s₁ h₁ => ?_) fun _ _ e => e)
  obtain ⟨d, o, kvs, news, rfl, hh, F, N, hm, hd, lo, hsz, R⟩ := h₁
  obtain ⟨ep, ha⟩ := KdkAt.of hd
  have hlt : d < s₁.heap.objs.size := Heap.lt_size (N _ hm).1
  refine wpAny_pyIter_dict lo (ha.dictAt (N _ hm).1) ?_
  refine block_T (S := fun nw => (d, o) ∈ nw) (Walks.dictKeys (knd := mix prog w) hh s₁.heap.objs.size d (Nat.ne_of_lt hlt) kvs ep) hsz (fun i h st => by obtain ⟨o, e, _⟩ := st.1; exact ⟨o, e⟩)
    (fun i h h' o' nw st e e' _ N' hS => ⟨st.1.at fun q hq => by rw [e] at hq; cases hq; exact e', ha.dictAt (N' _ hS).1⟩) hcell hkind hx
    ⟨⟨_, Heap.get?_push_size _ rfl, rfl, rfl⟩, ha.dictAt (Heap.get?_push_of_some _ (N _ hm).1)⟩ (fun b hb => ?_)
    (F.keeps fun _ _ e => Heap.get?_push_of_some _ e) (N.grown fun _ _ e => Heap.get?_push_of_some _ e) (Nat.ne_of_lt F.ns.lt) (next_is_new F) (fun p hp => Nat.ne_of_lt (Heap.lt_size (N p hp).1)) hm (R _ ⟨_, rfl⟩) ?_
  · show b < (s₁.heap.push _).objs.size
    rw [Heap.size_push]
    rcases List.mem_cons.mp hb with rfl | hb
    · exact Nat.lt_succ_self _
    · rw [List.mem_singleton.mp hb]; exact Nat.lt_succ_of_lt hlt
  · intro D C h tk m' ys news' F' N' o1 hn hC₀ hD₀ hCL hDL hCD offC fin
    refine ⟨m', hn, fun h'' hs'' => fin D h'' tk (F'.change hs'' hCL hC₀) (fun p hp => ?_) o1⟩
    refine ⟨hs''.extBut _ _ ?_ (N' p hp).1, (N' p hp).2⟩
    rcases List.mem_cons.mp hp with rfl | hp
    · exact Ne.symm hCD
    · exact offC p hp
noncomputable def TurnEnd (h₀ : Heap) (L : Addr) (m : Str → Option Value) (s : Shared) (all : List (Addr × Obj)) (ok : Bool) (s' : Shared) : Prop := ok = false ∧ ∃ h' tk', s' = { s with heap := h', toks := tk' } ∧ Fr h₀ L h' m ∧ News h₀ L h' all
noncomputable def TurnNo (prog : Program) (w : World) (A : Around) (h₀ : Heap) (L : Addr) (m : Str → Option Value) (env : Env) (ct : PySem.Expr) (x : Str) (scope : Scope) (cl : List (Str × Addr)) (s : Shared) (P : Nat → Value → Prop) (news : List (Addr × Obj)) : Prop :=
  ∀ i v I oI C oC D m₂ h tk (E' : Value → Shared → Prop), P i v → NsObj oC m₂ → m₂ x = some v → Fr h₀ L h m → News h₀ L h ((I, oI) :: (C, oC) :: (D, lst []) :: news) →
    wpAny (model prog w) A (isTrue ct (compEnvC scope cl C env) (eval ct (compEnvC scope cl C env))) (TurnEnd h₀ L m s ((I, oI) :: (C, oC) :: (D, lst []) :: news)) E' { s with heap := h, toks := tk }
theorem rest_none {ct elt : PySem.Expr} {x : Str} {scope : Scope} {cl : List (Str × Addr)} {S : List (Addr × Obj) → Prop} {P : Nat → Value → Prop} {Fin : List Value → List (Addr × Obj) → Prop} {news : List (Addr × Obj)}
    (ht : TurnNo prog w A h₀ L m env ct x scope cl s P news) (hS : S news) (hfin : Fin [] news) : ∀ k i, CompRestT prog w A h₀ L m env ct elt x scope cl s S P Fin k i [] news
  | 0, _ => hfin
  | k + 1, i => fun v I oI C oC D m₂ h tk E' hP hC hx F N off ne => wpAny_mono (ht i v I oI C oC D m₂ h tk E' hP hC hx F N) (fun ok s' ⟨hok, h', tk', e, F', N'⟩ => by
      subst hok e
      rw [if_neg Bool.false_ne_true]
      exact CompEnd.intro F' N' news (fun _ z => z) off hS (rest_none ht hS hfin k (i + 1))) fun _ _ z => z
theorem srcK_none {ct elt : PySem.Expr} {x : Str} {scope : Scope} {cl : List (Str × Addr)} {Q : Value → Shared → Prop} {d : Addr} {o : Obj} {kvs : List ((Int ⊕ Str) × Value)} {news : List (Addr × Obj)} (hh : A.handled = none) (F : Fr h₀ L s.heap m) (N : News h₀ L s.heap news)
    (hm : (d, o) ∈ news) (hd : o.IsDictOf (mix prog w) kvs) (lo : (d == sysModules) = false) (hsz : kvs.length ≤ sizeLine) (ht : ∀ g, TurnNo prog w A h₀ L m env ct x scope cl { s with heap := g } (KeyP prog w kvs) news)
    (hq : ∀ D h tk, Fr h₀ L h m → News h₀ L h ((D, lst []) :: news) → Q (.ref D) { s with heap := h, toks := tk }) :
    SrcK prog w A h₀ L m env ct elt x scope cl (fun s₂ => FinE h₀ L m s₂ Q) (.ref d) s :=
  ⟨d, o, kvs, news, rfl, hh, F, N, hm, hd, lo, hsz, fun s₂ ⟨g, e⟩ => by subst e; exact rest_none (ht g) hm (fun D h tk F' N' _ => hq D h tk F' N') _ _⟩
end
end Mine
end
end
section
local macro_rules | `(tactic| lcg_src) => `(tactic| first | with_reducible assumption | exact List.mem_cons_self | (refine List.mem_cons_of_mem _ ?_; lcg_src) | (refine List.mem_append_right _ ?_; lcg_src) | (refine List.mem_append_left _ ?_; lcg_src))
local macro_rules | `(tactic| k_lt $h) => `(tactic| replace $h := allLt_of $h)
local macro_rules | `(tactic| kaf_pre) => `(tactic| first | with_reducible assumption | exact Mine.allLt_mem (by with_reducible assumption) (by lcg_src) | exact Nat.lt_succ_self _ | (refine Mine.lt_via (by with_reducible assumption) ?_; kaf_pre) | (refine Nat.lt_succ_of_lt ?_; kaf_pre))
local macro_rules | `(tactic| k_ne) => `(tactic| (refine neN ?_; (try dsimp only); first | with_reducible assumption | exact Nat.ne_of_gt (by kaf_pre) | exact Nat.ne_of_lt (by kaf_pre) | omega))
local macro_rules | `(tactic| kaf_suf) => `(tactic| first | exact Mine.allLt_suf (by with_reducible assumption) (by intro p hp; lcg_src) | (refine Mine.allLt_succ ?_; kaf_suf))
local macro_rules | `(tactic| k_all) => `(tactic| first | with_reducible assumption | exact Mine.tl_ne (by with_reducible assumption) (by k_mem) | exact Mine.allLt_ne (by kaf_suf) | (refine List.forall_mem_append.mpr ⟨?_, ?_⟩ <;> k_all))
section
namespace Mine
open PySem.Spec PySem.Calls PySem.Sem
theorem wpAny_le {M : Model} {α : Type} {t : Sem α} {Q : α → Shared → Prop} {E : Value → Shared → Prop} {s : Shared} {hd : Option Value} {fr : Option (List Env)} {g : Option (List Code)} {d d' u u' : Nat} (h1 : d ≤ d') (h2 : u ≤ u')
    (h : wpAny M { handled := hd, depth := d', frames := fr, guards := g, units := u' } t Q E s) : wpAny M { handled := hd, depth := d, frames := fr, guards := g, units := u } t Q E s :=
  fun Γ p i => h Γ p ⟨i.1, Nat.le_trans i.2.1 h1, i.2.2.1, i.2.2.2.1, Nat.le_trans i.2.2.2.2 h2⟩
theorem top_le {M : Model} {α : Type} {t : Sem α} {Q : α → Shared → Prop} {E : Value → Shared → Prop} {s : Shared} {dp un dp' un' : Nat} {gd : Option (List Code)} {cn : Str} {cs : Scope} {L a : Addr} {ccd : Value} {cl : List (Str × Addr)} {outer : List Env} (h1 : dp ≤ dp') (h2 : un ≤ un') (h : wpAny M (ktrTop dp' un' gd cn cs L a ccd cl outer) t Q E s) : wpAny M (ktrTop dp un gd cn cs L a ccd cl outer) t Q E s := wpAny_le h1 h2 h
noncomputable abbrev excN (C t : Addr) : Obj := { cls := .ref C, data := .fields #[.ref t, .none, .none, .none, .bool false, .none] }
theorem made_fr {h₀ h h' : Heap} {L e : Addr} {m : Str → Option Value} {cls : Value} {args : List Value} (F : Fr h₀ L h m) (M : Heap.MadeExcOf h h' e cls args) : Fr h₀ L h' m := ⟨F.ns.keeps M.keeps, fun b o q => M.keeps b o (F.keep b o q), F.above⟩
theorem made_news {h₀ h h' : Heap} {L e C : Addr} {m : Str → Option Value} {args : List Value} {news : List (Addr × Obj)} (F : Fr h₀ L h m) (N : News h₀ L h news) (M : Heap.MadeExcOf h h' e (.ref C) args) : ∃ t, News h₀ L h' ((e, excN C t) :: (t, tup args.toArray 0) :: news) ∧ ∀ q ∈ (t, tup args.toArray 0) :: news, q.1 ≠ e := by
  obtain ⟨t, a, b, c⟩ := M.there
  have key : ∀ x, h.get? x = none → x ≠ L ∧ h₀.get? x = none := fun x hx => by
    refine ⟨fun z => ?_, ?_⟩
    · obtain ⟨oL, _, _, q, _⟩ := F.ns
      rw [z, q] at hx
      cases hx
    · cases z : h₀.get? x with
      | none => rfl
      | some o => rw [F.keep _ _ z] at hx; cases hx
  refine ⟨t, fun p hp => ?_, fun q hq => (List.mem_cons.mp hq).elim (fun y z => ?_) (fun hq z => ?_)⟩
  · rcases List.mem_cons.mp hp with rfl | hp
    · exact ⟨a, key _ M.new⟩
    · rcases List.mem_cons.mp hp with rfl | hp
      · exact ⟨c, key _ b⟩
      · exact ⟨M.keeps _ _ (N p hp).1, (N p hp).2⟩
  · rw [y] at z
    rw [show t = e from z, a] at c
    cases c
  · have y := (N q hq).1
    rw [z, M.new] at y
    cases y
theorem cls59m (w : World) : ∃ cd, clsIn (Mine.kmk.heap_1 w.params) 59 = some cd ∧ cd.hasDict = true ∧ cd.mro = [.ref 59, .ref 39, .type "Exception", .type "BaseException", .type "object"] := ⟨_, rfl, rfl, rfl⟩
theorem refuse59 (self : Value) : refuseLoop self "__setattr__" [.ref 59, .ref 39, .type "Exception", .type "BaseException", .type "object"] = pure () := by
  rw [refuseLoop_ref, refuseLoop_ref]
  kernel_rfl
section
variable {prog : Program} {w : World} {A : Around} {E : Value → Shared → Prop} {s : Shared} {h₀ : Heap} {L e t : Addr} {m : Str → Option Value} {news : List (Addr × Obj)} {name : Str} {v : Value}
theorem set59_0 {Q : Unit → Shared → Prop} (F : Fr h₀ L s.heap m) (N : News h₀ L s.heap ((e, excN 59 t) :: news)) (X : (Mine.kmk.heap_1 w.params).In h₀) (hne : ∀ p ∈ news, p.1 ≠ e) (hs : findIn (Mine.kmk.heap_1 w.params) (.ref 59) "__setattr__" = some (some (.builtin "object.__setattr__"))) (ht : takerIn (Mine.kmk.heap_1 w.params) 59 name = some none)
    (h : ∀ h' dx, Fr h₀ L h' m → News h₀ L h' ((dx, dictOf [⟨PyData.keyHash w.params name, .str name (s.toks + 1), v⟩] 1) :: (e, excD 59 dx t) :: news) → (∀ p ∈ (e, excD 59 dx t) :: news, p.1 ≠ dx) → Q () { s with heap := h', toks := s.toks + 1 + 1 }) : wpAny (model prog w) A (setAttr (.ref e) name v) Q E s := by
  obtain ⟨cd, hc, hD, hm⟩ := cls59m w
  exact exc_set0 F N (X.keeps F.keep) hne hs hc hD (by rw [hm]; exact refuse59 _) (by rw [hm]; decide) ht h
theorem set59 {Q : Unit → Shared → Prop} {dx : Addr} {es es' : List DictEntry} {n n' : Nat} (F : Fr h₀ L s.heap m) (N : News h₀ L s.heap ((dx, dictOf es n) :: (e, excD 59 dx t) :: news)) (X : (Mine.kmk.heap_1 w.params).In h₀) (hne : ∀ p ∈ (e, excD 59 dx t) :: news, p.1 ≠ dx) (hs : findIn (Mine.kmk.heap_1 w.params) (.ref 59) "__setattr__" = some (some (.builtin "object.__setattr__"))) (ht : takerIn (Mine.kmk.heap_1 w.params) 59 name = some none)
    (hl : (getL name es).isSome = true) (hq : (putL name (PyData.keyHash w.params name) (.str name (s.toks + 1)) v es, putN name es n) = (es', n')) (hz : es'.length ≤ 1000)
    (h : ∀ h', Fr h₀ L h' m → News h₀ L h' ((dx, dictOf es' n') :: (e, excD 59 dx t) :: news) → Q () { s with heap := h', toks := s.toks + 1 + 1 }) : wpAny (model prog w) A (setAttr (.ref e) name v) Q E s := by
  obtain ⟨cd, hc, hD, hm⟩ := cls59m w
  obtain ⟨e1, e2⟩ := Prod.mk.inj hq
  have I : InstAt s.heap e (excD 59 dx t) 59 (some (dictOf es n)) := ⟨(N _ (.tail _ (.head _))).1, rfl, rfl, (N _ (.head _)).1⟩
  exact exc_set (pre := []) F N (X.keeps F.keep) I rfl hs hc hD (by rw [hm]; exact refuse59 _) (by rw [hm]; decide) ht hl (fun _ hp => nomatch hp) hne (by rw [putName_dict, e1, e2]) rfl hz h
theorem init59 {Q : Value → Shared → Prop} (F : Fr h₀ L s.heap m) (N : News h₀ L s.heap ((e, excN 59 t) :: news)) (X : (Mine.kmk.heap_1 w.params).In h₀) (hne : ∀ p ∈ news, p.1 ≠ e)
    (h : ∀ h' t', Fr h₀ L h' m → News h₀ L h' ((e, excN 59 t') :: news) → Q .none { s with heap := h' }) : wpAny (model prog w) A (call (.builtin "Exception.__init__") [.ref e, v]) Q E s := by
  obtain ⟨hp, g, d, tk, os⟩ := s
  have he := N _ (.head _)
  refine xq_init (X.keeps F.keep 59 _ rfl) (by decide +kernel) he.1 fun h' t1 a b => h h' t1 ⟨?_, fun c o q => b c o (fun z => ?_) (F.keep c o q), F.above⟩ fun p hp => ?_
  · obtain ⟨oL, es, ep, hL, r⟩ := F.ns
    exact ⟨oL, es, ep, b L oL (Ne.symm he.2.1) hL, r⟩
  · have y := he.2.2
    rw [z] at q
    rw [show h₀.get? e = none from y] at q
    cases q
  · rcases List.mem_cons.mp hp with rfl | hp
    · exact ⟨a, he.2⟩
    · exact ⟨b _ _ (hne p hp) (N p (.tail _ hp)).1, (N p (.tail _ hp)).2⟩
end
set_option maxRecDepth 100000 in
set_option maxHeartbeats 8000000 in
theorem fault_K {prog : Program} {w : World} {p : Program} {loose : List Str} {mean : ExcName → Option Value} {mg mb : Str → Option Value} {dp un : Nat} {gd : Option (List Code)} {cn : Str} {cs : Scope} {a : Addr} {ccd : Value} {cl : List (Str × Addr)} {outer : List Env} {A₀ : Around} {base h₀ : Heap} {L : Addr} {m : Str → Option Value} {s : Shared} {Q E : Value → Shared → Prop} {news : List (Addr × Obj)}
    (B : Below A₀ base outer h₀) (F : Fr h₀ L s.heap m) (X : (Mine.kmk.heap_1 w.params).In h₀) (N : News h₀ L s.heap news) (T : Top p loose mean mg mb h₀) (hk : cs.kind = .function) {k msg : Str} {t1 t2 : Tok} (hlk : k.length ≤ 60) (hlm : msg.length ≤ 60)
    (ret : ∀ e dd t od tk h' tk', Fr h₀ L h' m → News h₀ L h' ((e, excD 59 dd t) :: (dd, od) :: news) → (∀ q ∈ (dd, od) :: news, q.1 ≠ e) → lookIn "kind" od = some (some (.str k tk)) → Q (.ref e) { s with heap := h', toks := tk' }) :
    wpAny (model prog w) (ktrTop 310 30 gd cn cs L a ccd cl outer) (call (.ref 59) [.str k t1, .str msg t2]) Q E s := by
  obtain ⟨hp0, gg, dr, tk0, os0⟩ := s
  have XH := X.keeps F.keep
  refine xq_call (C := 59) (K := Mine.kmk.heap_1 w.params) (XH 59 _ rfl) (by decide +kernel) (by decide +kernel) (by decide +kernel) (by size_fits) XH (fI := 56) (by rfl) (XH 56 _ rfl) rfl ?_
  intro h' e hM
  have F' := made_fr F hM
  obtain ⟨t0, N', hne⟩ := made_news F N hM
  clear F N hM XH
  refine wpAny_call ?_
  k_dflt (refine' code_def ?k1 ?k2 ?k3 ?k4 ?k5 ?kA ?kF ?kK ?k6 ?k7 ?k8 ?k9 ?kB ?_ ?c2 ?c3 ?c4 ?c5; (case kA => exact rfl); (case kF => exact rfl); (case kK => assumption); (case k1 => k_asm); (case k2 => k_asm); (case k3 => k_asm); (case k4 => k_asm); (case k5 => k_asm); (case k6 => k_is); (case k7 => k_is); (case k8 => ktr_room); (case k9 => first | exact BindsTo.of_eq rfl | exact binds_K (by k_in) rfl (by k_is) rfl rfl rfl | fail "k_enter: no rule for these arguments"); (case c5 => decide); (case kB => exact locs rfl); (case c2 => exact rfl); (case c3 => exact rfl); (case c4 => exact rfl); k_whole; intro g' L' h' FG' F' N' B' X' T'; (try dsimp only); (try k_lift B'); (try k_fold))
  have hl2 : (Str.ofString ": ").length = 2 := by decide +kernel
  (repeat' (first | (k_unfold; (try dsimp only)) | (k_end; wrow_close) | ((with_reducible show wpAny _ _ (getMethod (Value.type _) _ _) _ _ _); (k_dflt (refine method_type (T := "Exception") (v := .builtin "Exception.__init__") (by k_asm) (by k_asm) (by first | rfl | kernel_rfl) (by decide +kernel) (by first | rfl | decide +kernel) (by decide +kernel) ?_))) | ((with_reducible show wpAny _ _ (binaryOp Operator.Add (Value.str _ _) (Value.str _ _)) _ _ _); (k_dflt (refine KOpn.add (by omega) ?_); intro ts' ks' hs')) | ((with_reducible show wpAny _ _ (setAttr (Value.ref _) _ _) _ _ _); (k_dflt (first | (refine set59_0 (by k_asm) (by k_asm) (by k_asm) (by with_reducible assumption) (by rfl) (by rfl) ?_; intro h' dx9 F' N' hne9) | (refine set59 (by k_asm) (by k_asm) (by k_asm) (by with_reducible assumption) (by rfl) (by rfl) (by rfl) (by rfl) (Nat.le_of_ble_eq_true rfl) ?_; intro h' F' N')))) | ((with_reducible show wpAny _ _ (call (Value.builtin "Exception.__init__") _) _ _ _); (k_dflt (refine init59 (by k_asm) (by k_asm) (by k_asm) (by with_reducible assumption) ?_); intro h' t' F' N')) | ((with_reducible show wpAny _ _ (eval (PySem.Expr.BinOp _ _ _ _) _) _ _ _); (k_dflt (refine bin_sv (by rfl) (by first | exact rfl | assumption) (by k_asm) (by rfl) (by rfl) ?_))) | ((with_reducible show wpAny _ _ (spliced (backTo _ (starEach (_ :: _) _))) _ _ _); (k_dflt (refine spl_g (by rfl) (by first | exact rfl | assumption) (by k_asm) (by rfl) ?_))) | ((with_reducible show wpAny _ _ (callWith _ (Value.ref _) _ _ _) _ _ _); (k_here; k_dflt (first | refine' callWith_K ?k1 ?k2 ?_; (case k1 => k_asm); (case k2 => k_is); k_whole | refine' callWith_K0 ?k1 ?k2 ?_; (case k1 => k_in); (case k2 => k_is); k_whole); (try dsimp only [List.nil_append, List.append_nil]))) | ((with_reducible show wpAny _ _ (execs [] _) _ _ _); ((with_reducible refine Mine.gen_tok ?_); intro tk; (with_reducible refine wpAny_execs_nil ?_); (try dsimp only))) | ((with_reducible show wpAny _ _ (execs (_ :: _) _) _ _ _); ((with_reducible refine Mine.gen_tok ?_); intro tk; (with_reducible refine wpAny_execs_cons ?_); (try dsimp only))) | walk1 | (dsimp only; walk1) | (leave1; walk_say "STEP leave1"; try dsimp only) | fail "no step"))
  (with_reducible rename News h₀ _ _ _ => N9)
  refine ret e dx9 _ _ _ _ _ (by k_asm) (news_sub N9 (l' := (e, _) :: (dx9, _) :: news) (by
    intro p hp
    rcases List.mem_cons.mp hp with rfl | hp
    · exact .tail _ (.head _)
    · rcases List.mem_cons.mp hp with rfl | hp
      · exact .head _
      · exact .tail _ (.tail _ (.tail _ hp)))) (fun q hq => ?_) (by rfl)
  rcases List.mem_cons.mp hq with rfl | hq
  · exact Ne.symm (hne9 _ (.head _))
  · exact hne _ (.tail _ hq)
end Mine
end
section
namespace Mine
open PyProof.Rows.LCg PySem.Calls PySem.Spec
theorem off1_mem {D : Addr} : ∀ {l : List (Addr × Obj)}, Off1 D l → ∀ p ∈ l, p.1 ≠ D
  | [], _, _, h => nomatch h
  | _ :: _, x, p, h => by
    rcases List.mem_cons.mp h with rfl | h
    · exact x.1
    · exact off1_mem x.2 p h
theorem offI {I C D a : Addr} {o : Obj} {l : List (Addr × Obj)} (h : Off3 I C D l) (m : (a, o) ∈ l) : a ≠ I := (h.mem _ m).1
theorem offC {I C D a : Addr} {o : Obj} {l : List (Addr × Obj)} (h : Off3 I C D l) (m : (a, o) ∈ l) : a ≠ C := (h.mem _ m).2.1
theorem offD {I C D a : Addr} {o : Obj} {l : List (Addr × Obj)} (h : Off3 I C D l) (m : (a, o) ∈ l) : a ≠ D := (h.mem _ m).2.2
theorem off1 {D a : Addr} {o : Obj} {l : List (Addr × Obj)} (h : Off1 D l) (m : (a, o) ∈ l) : a ≠ D := off1_mem h _ m
theorem napp_nil {h₀ h : Heap} {L : Addr} {l : List (Addr × Obj)} (N : News h₀ L h l) : News h₀ L h (l ++ []) := by rwa [List.append_nil]
noncomputable def Hold (p : Prop) : Prop := p
theorem hold {p : Prop} (h : Hold p) : p := h
noncomputable def PairsOk (n : List (Addr × Obj)) (ys : List Value) (i : Nat) (zs : List Value) : Prop := zs.length = i ∧ ∀ (j : Nat) (v : Value), zs[j]? = some v → ∃ (t : Addr) (k : Nat) (u : Tok) (x : Value), v = .ref t ∧ ys[j]? = some x ∧ (t, tup #[.int (j : Int) u, x] k) ∈ n
theorem PairsOk.mono {n n' : List (Addr × Obj)} {ys zs : List Value} {i : Nat} (h : PairsOk n ys i zs) (s : ∀ p ∈ n, p ∈ n') : PairsOk n' ys i zs := ⟨h.1, fun j v e => let ⟨t, k, u, x, a, b, c⟩ := h.2 j v e; ⟨t, k, u, x, a, b, s _ c⟩⟩
theorem PairsOk.nil {n : List (Addr × Obj)} {ys : List Value} : PairsOk n ys 0 [] := ⟨rfl, fun j v e => by simp at e⟩
theorem PairsOk.snoc {n n' : List (Addr × Obj)} {ys zs : List Value} {i : Nat} {t : Addr} {k : Nat} {u : Tok} {x : Value} (h : PairsOk n ys i zs) (s : ∀ p ∈ n, p ∈ n') (hm : (t, tup #[.int (i : Int) u, x] k) ∈ n') (hx : ys[i]? = some x) : PairsOk n' ys (i + 1) (zs ++ [.ref t]) := by
  refine ⟨by rw [List.length_append, h.1]; rfl, fun j v e => ?_⟩
  by_cases q : j < zs.length
  · rw [List.getElem?_append_left q] at e
    exact (h.mono s).2 j v e
  · have q2 : j = i := by
      have := (List.getElem?_eq_some_iff.mp e).1
      rw [List.length_append, List.length_singleton, h.1] at this
      rw [h.1] at q
      omega
    subst q2
    rw [List.getElem?_append_right (by rw [h.1]; exact Nat.le_refl _), h.1, Nat.sub_self] at e
    cases e
    exact ⟨t, k, u, x, rfl, hx, hm⟩
theorem mixI_idx (vs : Nat → Value) : ∀ (ys : List Value) (j : Nat), (∀ i x, ys[i]? = some x → vs (j + i) = x) → mixI ((List.range' j ys.length).map fun (i : Nat) => (Int.ofNat i, vs i)) = idxL j ys
  | [], _, _ => rfl
  | y :: r, j, h => by
    unfold idxL
    rw [List.length_cons, List.range'_succ, List.map_cons]
    show ((Sum.inl (Int.ofNat j) : Int ⊕ Str), vs j) :: mixI _ = _
    rw [mixI_idx vs r (j + 1) fun i x e => by rw [Nat.add_assoc, Nat.add_comm 1 i]; exact h (i + 1) x e, show vs j = y from h 0 y rfl]
    rfl
section
variable {prog : Program} {w : World} {A : Around} {E : Value → Shared → Prop} {s : Shared} {h₀ : Heap} {L : Addr} {m : Str → Option Value} {env : Env} {news : List (Addr × Obj)}
theorem len_lst {l : Addr} {ys : List Value} {Q : Value → Shared → Prop} (N : News h₀ L s.heap news) (hm : (l, lst ys) ∈ news) (hz : ys.length ≤ 3) (h : Q (.int ys.length (s.toks + 1)) { s with toks := s.toks + 1 + 1 }) : wpAny (model prog w) A (call (.builtin "len") [.ref l]) Q E s :=
  len_list (items := ys.toArray) ⟨_, N.get hm, rfl, _, rfl⟩ (by rw [List.size_toArray]; omega) h
theorem item_lsti {value slice : PySem.Expr} {l : Addr} {ys : List Value} {k : Nat} {u : Tok} {v : Value} {Q : Value → Shared → Prop}
    (N : News h₀ L s.heap news) (hm : (l, lst ys) ∈ news) (hk : k < 3) (e : ys[k]? = some v) (h : Q v s)
    (hs : subscripted slice false (.ref l) (.int (k : Int) u) = operate [.ref l, .int (k : Int) u] (getItem (.ref l) (.int (k : Int) u)) := by with_unfolding_all rfl) :
    wpAny (model prog w) A (subscriptTail value slice (.ref l) (.int (k : Int) u)) Q E s :=
  item_lst0 N hm (Int.natCast_nonneg _) (by omega) (by simpa using e) h hs
theorem kdict_n (F : Fr h₀ L s.heap m) (N : News h₀ L s.heap news) (hbig : h₀.NoLimit) (hh : A.handled = none) {l : Addr} {zs ys : List Value} {Q : Value → Shared → Prop}
    (hl : (l, lst zs) ∈ news) {n : Nat} (hn : ys.length = n) (hp : PairsOk news ys n zs) (hz : ys.length ≤ 3)
    (k : ∀ h' tk o, Fr h₀ L h' m → News h₀ L h' ((s.heap.objs.size, o) :: news) → (∀ p ∈ news, p.1 < s.heap.objs.size) → (s.heap.objs.size == sysModules) = false → o.IsDictOf (mix prog w) (idxL 0 ys) → Q (.ref s.heap.objs.size) { s with heap := h', toks := tk }) :
    wpAny (model prog w) A (call (.type "dict") [.ref l]) Q E s := by
  subst hn
  have hs : zs.toArray.size = ys.length := hp.1
  have key : ∀ j, j < zs.toArray.size → ∃ (t : Addr) (u : Tok) (k : Nat), zs[j]? = some (.ref t) ∧ (t, tup #[.int (j : Int) u, ys.getD j .none] k) ∈ news := fun j hj => by
    have hj' : j < zs.length := hj
    obtain ⟨t, k, u, x, a, b, c⟩ := hp.2 j zs[j] (List.getElem?_eq_getElem hj')
    exact ⟨t, u, k, by rw [List.getElem?_eq_getElem hj', a], by rw [List.getD_eq_getElem?_getD, b]; exact c⟩
  refine call_dict_pairs hh (T := fun j => if hj : j < zs.toArray.size then (key j hj).choose else 0) (vs := fun j => ys.getD j .none) (kt := fun j => if hj : j < zs.toArray.size then (key j hj).choose_spec.choose else 0) (N.get hl) (fun j hj => ?_) (fun j hj => ?_) (by rw [hs, sizeLine_eq]; omega) ?_
  · rw [dif_pos hj]
    obtain ⟨k, a, b⟩ := (key j hj).choose_spec.choose_spec
    simpa using a
  · rw [dif_pos hj, dif_pos hj]
    obtain ⟨k, a, b⟩ := (key j hj).choose_spec.choose_spec
    exact ⟨_, N.get b, rfl, _, rfl⟩
  · refine kdict_end F N hbig k ?_
    rw [hs]
    unfold idxPairs
    rw [List.range_eq_range']
    exact mixI_idx _ ys 0 fun i x e => by rw [Nat.zero_add, List.getD_eq_getElem?_getD, e]; rfl
theorem rest_pairs {elt : PySem.Expr} {x : Str} {scope : Scope} {cl : List (Str × Addr)} {Fin : List Value → List (Addr × Obj) → Prop} {ys : List Value} {n : Nat} (hn : ys.length = n)
    (turn : ∀ zs tl (i : Nat) t v I oI C oC D m₂ h tk (Q' E' : Value → Shared → Prop), ys[i]? = some v → i < 3 → NsObj oC m₂ → m₂ x = some (.int (i : Int) t) → Fr h₀ L h m → News h₀ L h ((I, oI) :: (C, oC) :: (D, lst zs) :: (news ++ tl)) →
      (∀ T u k h' tk', AllLt T ((I, oI) :: (C, oC) :: (D, lst zs) :: (news ++ tl)) → Fr h₀ L h' m → News h₀ L h' ((T, tup #[.int (i : Int) u, v] k) :: (I, oI) :: (C, oC) :: (D, lst zs) :: (news ++ tl)) → Q' (.ref T) { s with heap := h', toks := tk' }) →
      wpAny (model prog w) A (eval elt (compEnvC scope cl C env)) Q' E' { s with heap := h, toks := tk }) (hn3 : n ≤ 3)
    (fin : ∀ zs tl, PairsOk tl ys n zs → (∀ p ∈ tl, AllLt p.1 news) → Fin zs (news ++ tl)) :
    ∀ k i zs tl, i + k = n → PairsOk tl ys i zs → (∀ p ∈ tl, AllLt p.1 news) → CompRest prog w A h₀ L m env elt x scope cl s (fun _ => True) (fun i v => ∃ t, v = .int (0 + (i : Int)) t) Fin k i zs (news ++ tl)
  | 0, i, zs, tl, hk, hp, ht => fin zs tl ((show i = n by omega) ▸ hp) ht
  | k + 1, i, zs, tl, hk, hp, ht => fun v I oI C oC D m₂ h tk E' hP hC hx F N off ne => by
    obtain ⟨t, rfl⟩ := hP
    rw [Int.zero_add] at hx
    have hi : i < ys.length := by omega
    refine turn zs tl i t ys[i] I oI C oC D m₂ h tk _ E' (List.getElem?_eq_getElem hi) (by omega) hC hx F N fun T u q h' tk' hT F' N' => ?_
    refine CompEnd.intro F' N' (news ++ (T, tup #[.int (i : Int) u, ys[i]] q) :: tl) (fun p hp => ?_) (Off3.of fun p hp => ?_) True.intro
      (rest_pairs (elt := elt) (Fin := Fin) hn turn hn3 fin k (i + 1) _ ((T, tup #[.int (i : Int) u, ys[i]] q) :: tl) (by omega) (hp.snoc (fun p hp => .tail _ hp) (.head _) (List.getElem?_eq_getElem hi)) (lt_cons (allLt_suf hT fun p hp => .tail _ (.tail _ (.tail _ (List.mem_append_left _ hp)))) ht))
    · simp only [List.mem_cons, List.mem_append] at hp ⊢
      rcases hp with hp | hp | hp | hp | hp | hp <;> simp only [hp, true_or, or_true]
    · rcases List.mem_append.mp hp with hp | hp
      · exact off.mem _ (List.mem_append_left _ hp)
      · rcases List.mem_cons.mp hp with rfl | hp
        · exact ⟨Nat.ne_of_gt (allLt_mem hT (.head _)), Nat.ne_of_gt (allLt_mem hT (.tail _ (.head _))), Nat.ne_of_gt (allLt_mem hT (.tail _ (.tail _ (.head _))))⟩
        · exact off.mem _ (List.mem_append_right _ hp)
theorem rest_leafs {elt : PySem.Expr} {x : Str} {scope : Scope} {cl : List (Str × Addr)} {P : Nat → Value → Prop} {Fin : List Value → List (Addr × Obj) → Prop} {src : Addr} {o₀ : Obj} {q1 q2 : Addr × Obj} {rst : List (Addr × Obj)} {n : Nat}
    (turn : ∀ ys tl o i v I oI C oC D m₂ h tk (Q' E' : Value → Shared → Prop), SrcOk o → (∀ p ∈ tl, AllLt p.1 (q1 :: q2 :: (src, o₀) :: rst)) → P i v → NsObj oC m₂ → m₂ x = some v → Fr h₀ L h m → News h₀ L h ((I, oI) :: (C, oC) :: (D, lst ys) :: q1 :: q2 :: (src, o) :: (rst ++ tl)) → Off3 I C D (q1 :: q2 :: (src, o) :: (rst ++ tl)) → ((@Ne Nat I C) ∧ (@Ne Nat I D) ∧ (@Ne Nat C D)) →
      (∀ y d tl' o' h' tk', Rd w tl' y d → Good d → (∀ p ∈ tl', AllLt p.1 ((I, oI) :: (C, oC) :: (D, lst ys) :: q1 :: q2 :: (src, o) :: (rst ++ tl))) → SrcOk o' → Fr h₀ L h' m → News h₀ L h' ((I, oI) :: (C, oC) :: (D, lst ys) :: q1 :: q2 :: (src, o') :: (rst ++ tl ++ tl')) → Q' y { s with heap := h', toks := tk' }) →
      wpAny (model prog w) A (eval elt (compEnvC scope cl C env)) Q' E' { s with heap := h, toks := tk })
    (fin : ∀ ys tl o, ys.length = n → SrcOk o → RGs w tl ys → (∀ p ∈ tl, AllLt p.1 (q1 :: q2 :: (src, o₀) :: rst)) → Fin ys (q1 :: q2 :: (src, o) :: (rst ++ tl))) :
    ∀ k i ys tl o, i + k = n → ys.length = i → SrcOk o → RGs w tl ys → (∀ p ∈ tl, AllLt p.1 (q1 :: q2 :: (src, o₀) :: rst)) → CompRest prog w A h₀ L m env elt x scope cl s (fun _ => True) P Fin k i ys (q1 :: q2 :: (src, o) :: (rst ++ tl))
  | 0, _, ys, tl, o, hn, hl, ho, hr, ht => fin ys tl o (by omega) ho hr ht
  | k + 1, i, ys, tl, o, hn, hl, ho, hr, ht => fun v I oI C oC D m₂ h tk E' hP hC hx F N off ne => by
    refine turn ys tl o i v I oI C oC D m₂ h tk _ E' ho ht hP hC hx F N off ne fun y d tl' o' h' tk' hy hg hlt ho' F' N' => ?_
    refine CompEnd.intro F' N' (q1 :: q2 :: (src, o') :: (rst ++ (tl ++ tl'))) (fun p hp => by rw [List.append_assoc]; exact hp) (Off3.of fun p hp => ?_) True.intro (rest_leafs turn fin k (i + 1) _ _ _ (by omega) (by rw [List.length_append]; simp [hl]) ho' ?_ ?_)
    · have key : ∀ a : Addr, (∃ oa, (a, oa) ∈ q1 :: q2 :: (src, o) :: (rst ++ tl)) → a ≠ I ∧ a ≠ C ∧ a ≠ D := fun a ⟨oa, z⟩ => off.mem _ z
      simp only [List.mem_cons, List.mem_append] at hp
      rcases hp with rfl | rfl | rfl | hp | hp | hp
      · exact key _ ⟨_, .head _⟩
      · exact key _ ⟨_, .tail _ (.head _)⟩
      · exact key _ ⟨_, .tail _ (.tail _ (.head _))⟩
      · exact key p.1 ⟨p.2, .tail _ (.tail _ (.tail _ (List.mem_append_left _ hp)))⟩
      · exact key p.1 ⟨p.2, .tail _ (.tail _ (.tail _ (List.mem_append_right _ hp)))⟩
      · exact tl_off hlt hp
    · intro z hz
      rcases List.mem_append.mp hz with hz | hz
      · exact (hr z hz).mono fun p hp => List.mem_append_left _ hp
      · rw [List.mem_singleton.mp hz]; exact ⟨d, hy.mono fun p hp => List.mem_append_right _ hp, hg⟩
    · refine lt_app ht fun p hp => ?_
      have z := hlt p hp
      exact ⟨allLt_mem z (.tail _ (.tail _ (.tail _ (.head _)))), allLt_mem z (.tail _ (.tail _ (.tail _ (.tail _ (.head _))))), allLt_src (o' := o) z (.tail _ (.tail _ (.tail _ (.tail _ (.tail _ (.head _)))))) fun q hq => .tail _ (.tail _ (.tail _ (.tail _ (.tail _ (.tail _ (List.mem_append_left _ hq))))))⟩
end
end Mine
end
section
namespace Mine
open PyProof.Rows.LCg
theorem nil3 {h₀ h : Heap} {L : Addr} {a b c : Addr × Obj} {r : List (Addr × Obj)} (N : News h₀ L h (a :: b :: c :: r)) : News h₀ L h (a :: b :: c :: (r ++ [])) := by rwa [List.append_nil]
theorem asc5 {h₀ h : Heap} {L : Addr} {q : Addr × Obj} {r t1 t2 l : List (Addr × Obj)} (N : News h₀ L h (q :: ((r ++ (t1 ++ t2)) ++ l))) : News h₀ L h (q :: (r ++ (t1 ++ (t2 ++ l)))) := by simpa only [List.append_assoc] using N
theorem lst_is {h₀ h : Heap} {L l : Addr} {ys : List Value} {news : List (Addr × Obj)} (N : News h₀ L h news) (hm : (l, lst ys) ∈ news) : h.IsList l ys.toArray := ⟨_, N.get hm, rfl, _, rfl⟩
theorem rg_small {j : Nat} (h : j < 4) : Builtin.Range.small 0 (j : Int) 1 = true ∧ Builtin.Range.rangeSize 0 (j : Int) 1 = (j : Int) ∧ j ≤ sizeLine := by
  rw [sizeLine_eq]
  rcases j with _ | _ | _ | _ | j
  all_goals first | (exact ⟨by decide, by decide, by decide⟩) | omega
local macro_rules | `(tactic| ked_read) => `(tactic| first | exact Rd.int | exact Rd.str | exact Rd.bool | exact Rd.nothing | exact Rd.none | with_reducible assumption | (refine' Rd.tuple ?hm ?hc ?hd ?b; (case hm => k_mem); (case hc => rfl); (case hd => rfl); (case b => ked_reads)) | (refine' Rd.list ?hm ?hc ?hd ?b; (case hm => k_mem); (case hc => rfl); (case hd => rfl); (case b => ked_reads)))
local macro_rules | `(tactic| ked_reads) => `(tactic| first | exact RdAll.nil | (refine' RdAll.cons ?a ?b; (case a => ked_read); (case b => ked_reads)) | with_reducible assumption)
local macro_rules | `(tactic| walk_at "my:mem") => `(tactic| first | exact List.Mem.head _ | (refine List.Mem.tail _ ?_; walk_at "my:mem") | (refine List.mem_append_right _ ?_; walk_at "my:mem"))
local macro_rules | `(tactic| walk_at "my:rgs") => `(tactic| first | exact RGs.nil | exact RGs.cons (by walk_at "my:rg") (by walk_at "my:rgs"))
local macro_rules | `(tactic| walk_at "my:altS") => `(tactic| first | with_reducible exact alt0 | with_reducible exact alt1 | with_reducible exact alt2 | with_reducible exact alt3 | (with_reducible refine alt_skip ?_; walk_at "my:altS"))
local macro_rules | `(tactic| walk_at "my:altL") => `(tactic| first | with_reducible exact alt0L | with_reducible exact alt1L | with_reducible exact alt2L | with_reducible exact alt3L | (with_reducible refine alt_skipL ?_; walk_at "my:altL"))
local macro_rules | `(tactic| walk_at "my:lt1") => `(tactic| first
  | (with_reducible refine lt_cons ?_ ?_; (walk_at "my:alt"); (walk_at "my:lt1"))
  | (with_reducible exact lt_nil)
  | (with_reducible refine lt_app ?_ ?_; (intro p hp; walk_at "my:altM"); (walk_at "my:lt1")))

local macro_rules | `(tactic| walk_at "CompSrc") => `(tactic| refine hold ?_)
local macro_rules | `(tactic| kct_strs) => `(tactic| first | exact off1 (by with_reducible assumption) (by lcg_src) | exact offI (by with_reducible assumption) (by lcg_src) | exact offC (by with_reducible assumption) (by lcg_src) | exact offD (by with_reducible assumption) (by lcg_src))
local macro_rules | `(tactic| k_ne) => `(tactic| (refine neN ?_; (try dsimp only); first | with_reducible assumption | exact Nat.ne_of_gt (by kaf_pre) | exact Nat.ne_of_lt (by kaf_pre) | kct_strs | exact Ne.symm (by kct_strs) | omega))

set_option maxRecDepth 100000 in
set_option maxHeartbeats 8000000 in
theorem value_ok {prog : Program} {w : World} {p : Program} {loose : List Str} {mean : ExcName → Option Value} {mg mb : Str → Option Value} {dp un : Nat} {gd : Option (List Code)} {cn : Str} {cs : Scope} {a : Addr} {ccd : Value} {cl : List (Str × Addr)} {outer : List Env} {A₀ : Around} {base h₀ : Heap} {L : Addr} {m : Str → Option Value} {s : Shared} {Q E : Value → Shared → Prop} {news : List (Addr × Obj)}
    (B : Below A₀ base outer h₀) (F : Fr h₀ L s.heap m) (X : (Mine.kmk.heap_1 w.params).In h₀) (N : News h₀ L s.heap news) (T : Top p loose mean mg mb h₀) (hk : cs.kind = .function)
    {src : Addr} {o : Obj} {g : Obj → List (Addr × Obj)} (U : UpdF src o news g) (ho : SrcOk o) 
    (hdp : dp + 5 < recursionLimit) (hun : un + 80 < cLine)
    (ret : ∀ T tT v D oD kvs tl o' h' tk', Fr h₀ L h' m → News h₀ L h' (g o' ++ tl) → (T, tup #[v, .ref D] tT) ∈ tl → VF w tl v kvs → (D, oD) ∈ tl → oD.IsDictOf (mix prog w) kvs → (D == sysModules) = false → (∀ p ∈ tl, AllLt p.1 news) →
      SrcOk o' → Q (.ref T) { s with heap := h', toks := tk' }) :
    wpAny (model prog w) (ktrTop dp un gd cn cs L a ccd cl outer) (call (.ref 237) [.ref src]) Q E s := by
  obtain ⟨rst, N1, hr, hlt, hret⟩ := src_head N U
  clear N U
  have N := N1
  clear N1
  refine wpAny_call ?_
  k_dflt (((refine' code_defC ?k1 ?k2 ?k3 ?k4 ?k5 ?kA ?kF ?kK ?k6 ?k7 ?k8 ?k9 ?kB ?kD ?_ ?c2 ?c3 ?c4; (case kA => exact rfl); (case kF => exact rfl); (case kK => assumption); (case k1 => k_asm); (case k2 => k_asm); (case k3 => k_asm); (case k4 => k_asm); (case k5 => k_asm); (case k6 => k_is); (case k7 => k_is); (case k8 => ktr_room); (case k9 => first | exact BindsTo.of_eq rfl | exact binds_K (by k_in) rfl (by k_is) rfl rfl rfl | fail "k_enter: no rule for these arguments"); (case kB => exact rfl); (case kD => decide +kernel); (case c2 => exact rfl); (case c3 => exact rfl); (case c4 => exact rfl); k_whole; intro g' L' h' tk' cells' FG' F' N' Y' B' X' T' l1; (try k_lt l1); k_cells Y'; (try simp only [List.cons_append, List.nil_append] at N'); (try dsimp only); (try k_lift B'); (try k_fold))))
  (repeat' (first | (k_unfold; (try dsimp only)) | (k_end; wrow_close) | ((with_reducible show wpAny _ _ (eval (PySem.Expr.ListComp _ _ _ _) _) _ _ _); (k_dflt (refine LCg.ListComp_U (F₀ := by k_asm) (by with_unfolding_all rfl) (by decide) (by rfl) (by decide) (by rfl) ?_))) | ((with_reducible show ∃ _, _); (k_dflt (refine' mk_str ?F ?N ?b ?k ?n ?_; (case F => k_asm); (case N => k_asm); (case b => exact Top.nolimit (by k_asm)); (case k => exact rfl); (case n => exact of_decide_eq_true rfl)); intro h' o' F' N' l1 lo' hd'; (try k_lt l1))) | (((with_reducible show wpAny _ _ (call (Value.ref 232) [Value.ref _]) _ _ _); k_dflt (refine' leaf_ok ?B ?F ?X ?N ?T ?hk ?U ?ho ?hd ?hu ?_; (case B => k_asm); (case F => k_asm); (case X => k_asm); (case N => k_asm); (case T => k_asm); (case hk => first | exact rfl | assumption); (case U => k_updF); (case ho => assumption); (case hd => ktr_room); (case hu => ktr_units)); intro vL dL tlL oL hL tkL hRd hGd hLt hoL F' N'; (try dsimp only at N'); (try simp only [List.cons_append, List.nil_append] at N'); (try k_sweep))) | (((with_reducible show wpAny _ _ (call (Value.ref 218) [Value.ref _, Value.ref _]) _ _ _); k_dflt (refine' one_ok ?B ?F ?X ?N ?T ?hk ?U ?ho ?hm ?hne ?h1 ?h2 ?hd ?hu ?_; (case B => k_asm); (case F => k_asm); (case X => k_asm); (case N => k_asm); (case T => k_asm); (case hk => first | exact rfl | assumption); (case U => k_updF); (case ho => assumption); (case hm => k_mem); (case hne => k_ne); (case h1 => simp only [List.size_toArray, List.length_cons, List.length_nil]; omega); (case h2 => simp only [List.size_toArray, List.length_cons, List.length_nil]; omega); (case hd => ktr_room); (case hu => ktr_units)); intro vO oO hO tkO hvO hoO F' N'; (try dsimp only at N'); (try k_sweep))) | (((with_reducible show wpAny _ _ (call (Value.ref 211) [Value.ref _, Value.int _ _]) _ _ _); k_dflt (refine' take_ok ?B ?F ?X ?N ?T ?hk ?U ?ho ?h1 ?h2 ?hd ?hu ?_; (case B => k_asm); (case F => k_asm); (case X => k_asm); (case N => k_asm); (case T => k_asm); (case hk => first | exact rfl | assumption); (case U => k_updF); (case ho => assumption); (case h1 => first | omega | (simp only [List.size_toArray, List.length_cons, List.length_nil]; omega)); (case h2 => first | omega | (simp only [List.size_toArray, List.length_cons, List.length_nil]; omega)); (case hd => ktr_room); (case hu => ktr_units)); intro dT tT oT hT tkT hdT hdT2 hoT F' N'; (try dsimp only at N'); (try k_sweep))) | ((with_reducible show wpAny _ _ (storeName _ _ _) _ _ _); (k_dflt (refine store_o (by k_asm) (by k_asm) ?_ (by first | exact rfl | assumption) (by rfl)); intro hw7 mw7 Fw7 Nw7)) | ((with_reducible show wpAny _ _ (newList _) _ _ _); (k_dflt (refine list_o (by k_asm) (by k_asm) (by size_fits) ?_); intro Dw7 hw7 ow7 Fw7 Nw7 lw7)) | ((with_reducible show wpAny _ _ (newTuple _) _ _ _); (k_dflt (refine tuple_o (by k_asm) (by k_asm) (by size_fits) ?_); intro Dw7 hw7 ow7 Fw7 Nw7 lw7)) | ((with_reducible show wpAny _ _ (PySem.isTrue (PySem.Expr.Compare _ [_] [_] _) _ _) _ _ _); (k_dflt (first | refine isTrue_sv (by rfl) (by first | exact rfl | assumption) (by k_asm) (by rfl) (by rfl) ?_ | refine isTrue_sub (by rfl) (by first | exact rfl | assumption) (by k_asm) (by rfl) (by rfl) ?_); (try dsimp only))) | ((with_reducible show wpAny _ _ (eval (PySem.Expr.Tuple _ _ _) _) _ _ _); (k_dflt (refine tuple_svs (by rfl) (by first | exact rfl | assumption) (by k_asm) (by k_asm) (by rfl) (by size_fits) ?_); intro Dw7 hw7 ow7 Fw7 Nw7 lw7)) | ((with_reducible show wpAny _ _ (spliced (backTo _ (starEach (_ :: _) _))) _ _ _); (k_dflt (refine spl_g (by rfl) (by first | exact rfl | assumption) (by k_asm) (by rfl) ?_))) | ((with_reducible show wpAny _ _ (callWith _ (Value.ref _) _ _ _) _ _ _); (k_here; k_dflt (first | refine' callWith_K ?k1 ?k2 ?_; (case k1 => k_asm); (case k2 => k_is); k_whole | refine' callWith_K0 ?k1 ?k2 ?_; (case k1 => k_in); (case k2 => k_is); k_whole); (try dsimp only [List.nil_append, List.append_nil]))) | ((with_reducible show wpAny _ _ (execs [] _) _ _ _); ((with_reducible refine Mine.gen_tok ?_); intro tk; (with_reducible refine wpAny_execs_nil ?_); (try dsimp only))) | ((with_reducible show wpAny _ _ (execs (_ :: _) _) _ _ _); ((with_reducible refine Mine.gen_tok ?_); intro tk; (with_reducible refine wpAny_execs_cons ?_); (try dsimp only))) | walk1 | (dsimp only; walk1) | (leave1; walk_say "STEP leave1"; try dsimp only) | fail "no step"))
  · (with_reducible rename (∃ i : Nat, _ = some _) => hv)
    obtain ⟨i, hv⟩ := hv
    have NF := hret _ _ _ (pick_6_2 (by k_asm))
    have hLt := lts_for NF hlt (by repeat' (first | exact lt_nil | refine lt_cons (allLt_src (by with_reducible assumption) (by lcg_src) (by intro p hp; lcg_src)) ?_))
    rcases i with _ | _ | _ | _ | _ | _ | i
    all_goals (try (simp at hv; done))
    all_goals (simp only [Nat.zero_add, List.getElem?_toArray, List.getElem?_cons_succ, List.getElem?_cons_zero, Option.some.injEq] at hv; subst hv)
    all_goals exact ret _ _ _ _ _ _ _ _ _ _ (by k_asm) NF (by lcg_src) (by (first | exact VF.int _ _ | exact VF.bool _ | exact VF.nothing | exact VF.box (by walk_at "my:mem") (by (exact ⟨_, Rd.mono (by with_reducible assumption) (by ((intro p hp; simp only [List.mem_append, hp, true_or, or_true]))), by with_reducible assumption⟩)) | exact VF.flds (by walk_at "my:mem") (by walk_at "my:mem") (by first | exact Nat.le_of_ble_eq_true rfl | decide) (by walk_at "my:rgs") | exact VF.vrnt (by walk_at "my:mem") (by walk_at "my:mem") (by first | exact Nat.le_of_ble_eq_true rfl | decide) (by walk_at "my:rgs") | exact VF.ref (by walk_at "my:mem") ⟨_, by ked_read, by (exact ⟨by decide +kernel, by decide +kernel⟩)⟩)) (by lcg_src) (by (first | with_reducible assumption | exact mixS_of (by with_reducible assumption) | assumption)) (by with_reducible assumption) hLt (by assumption)
  · have NF := hret _ _ _ (asc1 (pick_3_2 (by k_asm)))
    have hLt := lts_for NF hlt (by repeat' (first | (refine lt_app ?_ ?_; rotate_left) | exact lt_nil | refine lt_cons (allLt_src (by with_reducible assumption) (by lcg_src) (by intro p hp; lcg_src)) ?_ | exact (fun p hp => allLt_src ((by with_reducible assumption : ∀ p ∈ _, AllLt p.1 _) p hp) (by lcg_src) (by intro p hp; lcg_src))))
    exact ret _ _ _ _ _ _ _ _ _ _ (by k_asm) NF (by lcg_src) (by (first | exact VF.int _ _ | exact VF.bool _ | exact VF.nothing | exact VF.box (by walk_at "my:mem") (by (exact ⟨_, Rd.mono (by with_reducible assumption) (by ((intro p hp; simp only [List.mem_append, hp, true_or, or_true]))), by with_reducible assumption⟩)) | exact VF.flds (by walk_at "my:mem") (by walk_at "my:mem") (by first | exact Nat.le_of_ble_eq_true rfl | decide) (by walk_at "my:rgs") | exact VF.vrnt (by walk_at "my:mem") (by walk_at "my:mem") (by first | exact Nat.le_of_ble_eq_true rfl | decide) (by walk_at "my:rgs") | exact VF.ref (by walk_at "my:mem") ⟨_, by ked_read, by (exact ⟨by decide +kernel, by decide +kernel⟩)⟩)) (by lcg_src) (by (first | with_reducible assumption | exact mixS_of (by with_reducible assumption) | assumption)) (by with_reducible assumption) hLt (by assumption)
  · (with_reducible rename (0 : Int) ≤ _ => hz)
    obtain ⟨j, ej⟩ := Int.eq_ofNat_of_zero_le hz
    subst ej
    have N0 := nil3 (by k_asm)
    have hj4 : j < 4 := by omega
    refine LCg.CompSrc.range (n := j) (by rfl) (by k_asm) N0 (by assumption) (rg_small hj4).1 (rg_small hj4).2.1 (rg_small hj4).2.2 fun g1 => ?_
    refine rest_leafs (o₀ := o) (n := j) ?turn ?fin j 0 [] [] _ (Nat.zero_add j) rfl (by assumption) RGs.nil lt_nil
    case turn =>
      intro ys tl o1 i v I oI C oC D m2 h tk Q1 E1 ho1 hlt1 hP hC hx F' N' off' ne' ret1
      (repeat' (first | (k_unfold; (try dsimp only)) | (k_end; wrow_close) | (((with_reducible show wpAny _ _ (call (Value.ref 232) [Value.ref _]) _ _ _); k_dflt (refine' leaf_ok ?B ?F ?X ?N ?T ?hk ?U ?ho ?hd ?hu ?_; (case B => k_asm); (case F => k_asm); (case X => k_asm); (case N => k_asm); (case T => k_asm); (case hk => first | exact rfl | assumption); (case U => k_updF); (case ho => assumption); (case hd => ktr_room); (case hu => ktr_units)); intro vL dL tlL oL hL tkL hRd hGd hLt hoL F' N'; (try dsimp only at N'); (try simp only [List.cons_append, List.nil_append] at N'); (try k_sweep))) | ((with_reducible show wpAny _ _ (callWith _ (Value.ref _) _ _ _) _ _ _); (k_here; k_dflt (first | refine' callWith_K ?k1 ?k2 ?_; (case k1 => k_asm); (case k2 => k_is); k_whole | refine' callWith_K0 ?k1 ?k2 ?_; (case k1 => k_in); (case k2 => k_is); k_whole); (try dsimp only [List.nil_append, List.append_nil]))) | walk1 | (dsimp only; walk1) | (leave1; walk_say "STEP leave1"; try dsimp only) | fail "no step"))
      exact ret1 _ _ _ _ _ _ (by with_reducible assumption) (by with_reducible assumption) (by with_reducible assumption) (by with_reducible assumption) (by k_asm) (by k_asm)
    case fin =>
      intro ys tl o1 hlen ho1 hrg hlt1 D h tk F' N' off1
      have hy3 : ys.length ≤ 3 := by omega
      (repeat' (first | (k_unfold; (try dsimp only)) | (k_end; wrow_close) | ((with_reducible show wpAny _ _ (eval (PySem.Expr.ListComp _ _ _ _) _) _ _ _); (k_dflt (refine LCg.ListComp_U (F₀ := by k_asm) (by with_unfolding_all rfl) (by decide) (by rfl) (by decide) (by rfl) ?_))) | ((with_reducible show wpAny _ _ (call (Value.builtin "len") [_]) _ _ _); (k_dflt (refine len_lst (by k_asm) (by lcg_src) (by omega) ?_))) | ((with_reducible show wpAny _ _ (execs (_ :: _) _) _ _ _); ((with_reducible refine Mine.gen_tok ?_); intro tk; (with_reducible refine wpAny_execs_cons ?_); (try dsimp only))) | walk1 | (dsimp only; walk1) | (leave1; walk_say "STEP leave1"; try dsimp only) | fail "no step"))
      refine LCg.CompSrc.range (n := j) (by rfl) (by k_asm) (napp_nil (by k_asm)) (by assumption) (by rw [hlen]; exact (rg_small hj4).1) (by rw [hlen]; exact (rg_small hj4).2.1) (rg_small hj4).2.2 fun g2 => ?_
      refine rest_pairs (ys := ys) hlen ?turn2 (by omega) ?fin2 j 0 [] [] (Nat.zero_add j) PairsOk.nil lt_nil
      case turn2 =>
        intro zs tl2 i t v I oI C oC D2 m2 h tk Q1 E1 hv hi hC hx F' N' ret1
        simp only [List.cons_append, List.nil_append, List.append_assoc] at N' ret1
        (repeat' (first | (k_unfold; (try dsimp only)) | (k_end; wrow_close) | ((with_reducible show wpAny _ _ (subscriptTail (PySem.Expr.Name _ _) (PySem.Expr.Name _ _) (Value.ref _) (Value.int _ _)) _ _ _); (k_dflt (refine item_lsti (by k_asm) (by lcg_src) (by with_reducible assumption) (by with_reducible assumption) ?_))) | ((with_reducible show wpAny _ _ (newTuple _) _ _ _); (k_dflt (refine tuple_o (by k_asm) (by k_asm) (by size_fits) ?_); intro Dw7 hw7 ow7 Fw7 Nw7 lw7)) | walk1 | (dsimp only; walk1) | (leave1; walk_say "STEP leave1"; try dsimp only) | fail "no step"))
        exact ret1 _ _ _ _ _ (by with_reducible assumption) (by k_asm) (by k_asm)
      case fin2 =>
        intro zs tl2 hp ht2 D2 h2 tk2 F' N' off2
        simp only [List.cons_append, List.nil_append, List.append_assoc] at N' off2
        (repeat' (first | (k_unfold; (try dsimp only)) | (k_end; wrow_close) | ((with_reducible show wpAny _ _ (call (Value.type "dict") _) _ _ _); (k_dflt (refine kdict_n (by k_asm) (by k_asm) (Top.nolimit (by k_asm)) (by rfl) (by lcg_src) (by with_reducible assumption) (PairsOk.mono (by with_reducible assumption) (by intro p hp; lcg_src)) (by omega) ?_); intro h' tk' o' F' N' l1 lo' hd'; (try k_lt l1))) | ((with_reducible show wpAny _ _ (call (Value.type "tuple") [_]) _ _ _); (k_dflt (refine kde_tupleOf (by k_asm) (by k_asm) (lst_is (by k_asm) (by lcg_src)) (by rw [List.size_toArray]; omega) (List.toList_toArray) ?_); intro D' h' F' N' l1; (try k_lt l1); (try k_sweep))) | ((with_reducible show wpAny _ _ (storeName _ _ _) _ _ _); (k_dflt (refine store_o (by k_asm) (by k_asm) ?_ (by first | exact rfl | assumption) (by rfl)); intro hw7 mw7 Fw7 Nw7)) | ((with_reducible show wpAny _ _ (newTuple _) _ _ _); (k_dflt (refine tuple_o (by k_asm) (by k_asm) (by size_fits) ?_); intro Dw7 hw7 ow7 Fw7 Nw7 lw7)) | ((with_reducible show wpAny _ _ (PySem.isTrue (PySem.Expr.Compare _ [_] [_] _) _ _) _ _ _); (k_dflt (first | refine isTrue_sv (by rfl) (by first | exact rfl | assumption) (by k_asm) (by rfl) (by rfl) ?_ | refine isTrue_sub (by rfl) (by first | exact rfl | assumption) (by k_asm) (by rfl) (by rfl) ?_); (try dsimp only))) | ((with_reducible show wpAny _ _ (spliced (backTo _ (starEach (_ :: _) _))) _ _ _); (k_dflt (refine spl_g (by rfl) (by first | exact rfl | assumption) (by k_asm) (by rfl) ?_))) | ((with_reducible show wpAny _ _ (execs (_ :: _) _) _ _ _); ((with_reducible refine Mine.gen_tok ?_); intro tk; (with_reducible refine wpAny_execs_cons ?_); (try dsimp only))) | walk1 | (dsimp only; walk1) | (leave1; walk_say "STEP leave1"; try dsimp only) | fail "no step"))
        all_goals (have NF := hret _ _ _ (asc5 (pick_4_4 (by k_asm))))
        all_goals (have hLt := lts_for NF hlt (by
          refine lt_app (fun p hp => allLt_src (hlt1 p hp) (by lcg_src) (by intro p hp; lcg_src)) (lt_app (fun p hp => allLt_src (ht2 p hp) (by lcg_src) (by intro p hp; lcg_src)) ?_)
          repeat' (first | exact lt_nil | refine lt_cons (allLt_src (by with_reducible assumption) (by lcg_src) (by intro p hp; lcg_src)) ?_)))
        · exact ret _ _ _ _ _ _ _ _ _ _ (by k_asm) NF (by lcg_src) (VF.flds (by lcg_src) (by lcg_src) hy3 (hrg.mono (by intro p hp; lcg_src))) (by lcg_src) hd' lo' hLt ho1
        · exact ret _ _ _ _ _ _ _ _ _ _ (by k_asm) NF (by lcg_src) (VF.vrnt (by lcg_src) (by lcg_src) hy3 (hrg.mono (by intro p hp; lcg_src))) (by lcg_src) hd' lo' hLt ho1
end Mine
end
section
namespace Mine
open PySem.Spec PySem.Calls
local macro_rules | `(tactic| walk_at "my:memA") => `(tactic| first | with_reducible assumption | exact List.mem_cons_self | (refine List.mem_cons_of_mem _ ?_; walk_at "my:memA") | (refine List.mem_append_right _ ?_; walk_at "my:memA"))

theorem set_arr {its : List Value} {i : Nat} {z : Value} (h : i < its.length) : ((its.take i).toArray ++ #[z] ++ (its.drop (i + 1)).toArray) = (its.set i z).toArray := by
  rw [List.set_eq_take_append_cons_drop, if_pos h]
  simp
theorem mem_set {its : List Value} {i n : Nat} {z : Value} {T : Addr} {q : Addr × Obj} {l : List (Addr × Obj)} (h : i < its.length) (hm : (T, tup ((its.take i).toArray ++ #[z] ++ (its.drop (i + 1)).toArray) n) ∈ l) : (T, tup (its.set i z).toArray n) ∈ q :: l := by
  rw [set_arr h] at hm; exact .tail _ hm
theorem news_two {h₀ h : Heap} {L : Addr} {x y : Addr × Obj} {l news : List (Addr × Obj)} (N : News h₀ L h (x :: l)) (h2 : y ∈ x :: l) (h3 : ∀ q ∈ news, q ∈ l) : News h₀ L h (x :: y :: news) := fun p hp => N p (by
  rcases List.mem_cons.mp hp with rfl | hp
  · exact .head _
  · rcases List.mem_cons.mp hp with rfl | hp
    · exact h2
    · exact .tail _ (h3 _ hp))
set_option maxRecDepth 100000 in
set_option maxHeartbeats 8000000 in
theorem with_box {prog : Program} {w : World} {p : Program} {loose : List Str} {mean : ExcName → Option Value} {mg mb : Str → Option Value} {dp un : Nat} {gd : Option (List Code)} {cn : Str} {cs : Scope} {a : Addr} {ccd : Value} {cl : List (Str × Addr)} {outer : List Env} {A₀ : Around} {base h₀ : Heap} {L : Addr} {m : Str → Option Value} {s : Shared} {Q E : Value → Shared → Prop} {news : List (Addr × Obj)}
    (B : Below A₀ base outer h₀) (F : Fr h₀ L s.heap m) (X : (Mine.kmk.heap_1 w.params).In h₀) (N : News h₀ L s.heap news) (T : Top p loose mean mg mb h₀) (hk : cs.kind = .function) {x : Addr} {k : Nat} {t : Tok} {y st z : Value} (hm : (x, tup #[.str "box" t, y] k) ∈ news) (hdp : dp + 2 < recursionLimit) (hun : un + 80 < cLine)
    (ret : ∀ T t' k' h' tk', Fr h₀ L h' m → News h₀ L h' ((T, tup #[.str "box" t', z] k') :: news) → AllLt T news → Q (.ref T) { s with heap := h', toks := tk' }) :
    wpAny (model prog w) (ktrTop dp un gd cn cs L a ccd cl outer) (call (.ref 119) [.ref x, st, z]) Q E s := by
  refine wpAny_call ?_
  k_dflt ktr_enter
  (repeat' (first | (k_unfold; (try dsimp only)) | (k_end; wrow_close) | (first | ((with_reducible show wpAny _ _ (subscriptTail _ _ (Value.ref _) (Value.int 0 _)) _ _ _); k_dflt (refine item_at0 (by k_asm) (by walk_at "my:memA") ?_)) | ((with_reducible show wpAny _ _ (subscriptTail _ _ (Value.ref _) (Value.int 1 _)) _ _ _); k_dflt (refine item_at1 (by k_asm) (by walk_at "my:memA") ?_))) | ((with_reducible show wpAny _ _ (PySem.isTrue (PySem.Expr.Compare _ [_] [_] _) _ _) _ _ _); (k_dflt (first | refine isTrue_sv (by rfl) (by first | exact rfl | assumption) (by k_asm) (by rfl) (by rfl) ?_ | refine isTrue_sub (by rfl) (by first | exact rfl | assumption) (by k_asm) (by rfl) (by rfl) ?_); (try dsimp only))) | ((with_reducible show wpAny _ _ (eval (PySem.Expr.Tuple _ _ _) _) _ _ _); (k_dflt (refine tuple_svs (by rfl) (by first | exact rfl | assumption) (by k_asm) (by k_asm) (by rfl) (by size_fits) ?_); intro Dw7 hw7 ow7 Fw7 Nw7 lw7)) | ((with_reducible show wpAny _ _ (execs (_ :: _) _) _ _ _); ((with_reducible refine Mine.gen_tok ?_); intro tk; (with_reducible refine wpAny_execs_cons ?_); (try dsimp only))) | walk1 | (dsimp only; walk1) | (leave1; walk_say "STEP leave1"; try dsimp only) | fail "no step"))
  exact ret _ _ _ _ _ (by k_asm) (by k_asm) (by first | kaf_suf | exact lt_sub (by with_reducible assumption) (by intro q hq; lcg_src) | exact lt_sub (by assumption) (by intro q hq; lcg_src))
set_option maxRecDepth 100000 in
set_option maxHeartbeats 8000000 in
theorem with_flds {prog : Program} {w : World} {p : Program} {loose : List Str} {mean : ExcName → Option Value} {mg mb : Str → Option Value} {dp un : Nat} {gd : Option (List Code)} {cn : Str} {cs : Scope} {a : Addr} {ccd : Value} {cl : List (Str × Addr)} {outer : List Env} {A₀ : Around} {base h₀ : Heap} {L : Addr} {m : Str → Option Value} {s : Shared} {Q E : Value → Shared → Prop} {news : List (Addr × Obj)}
    (B : Below A₀ base outer h₀) (F : Fr h₀ L s.heap m) (X : (Mine.kmk.heap_1 w.params).In h₀) (N : News h₀ L s.heap news) (T : Top p loose mean mg mb h₀) (hk : cs.kind = .function) {x p : Addr} {k kp i : Nat} {t ti : Tok} {its : List Value} {z : Value} (hm : (x, tup #[.str "fields" t, .ref p] k) ∈ news) (hp : (p, tup its.toArray kp) ∈ news) (hl : its.length ≤ 3) (hi : i < its.length) (hdp : dp + 2 < recursionLimit) (hun : un + 80 < cLine)
    (ret : ∀ T t' p' k' kp' h' tk', Fr h₀ L h' m → News h₀ L h' ((T, tup #[.str "fields" t', .ref p'] k') :: (p', tup (its.set i z).toArray kp') :: news) → AllLt T news → AllLt p' news → Q (.ref T) { s with heap := h', toks := tk' }) :
    wpAny (model prog w) (ktrTop dp un gd cn cs L a ccd cl outer) (call (.ref 119) [.ref x, .int (i : Int) ti, z]) Q E s := by
  refine wpAny_call ?_
  k_dflt ktr_enter
  have hi1 : i + 1 ≤ its.length := hi
  (repeat' (first | (k_unfold; (try dsimp only)) | (k_end; wrow_close) | (first | ((with_reducible show wpAny _ _ (subscriptTail _ _ (Value.ref _) (Value.int 0 _)) _ _ _); k_dflt (refine item_at0 (by k_asm) (by walk_at "my:memA") ?_)) | ((with_reducible show wpAny _ _ (subscriptTail _ _ (Value.ref _) (Value.int 1 _)) _ _ _); k_dflt (refine item_at1 (by k_asm) (by walk_at "my:memA") ?_))) | ((with_reducible show wpAny _ _ (binaryOp Operator.Add (Value.ref _) (Value.ref _)) _ _ _); (k_dflt (refine add_tups (by k_asm) (by k_asm) (by first | with_reducible assumption | exact List.mem_cons_of_mem _ (by with_reducible assumption) | exact List.mem_cons_of_mem _ (List.mem_cons_of_mem _ (by with_reducible assumption)) | walk_at "my:memA") (by first | with_reducible assumption | exact List.mem_cons_of_mem _ (by with_reducible assumption) | exact List.mem_cons_of_mem _ (List.mem_cons_of_mem _ (by with_reducible assumption)) | walk_at "my:memA") ?z ?_); (case z => simp; omega); intro T' n' h' tl' F' N' hm' hl' hT'; (try simp only [List.append_assoc, List.cons_append, List.nil_append] at N' hm'))) | ((with_reducible show wpAny _ _ (subscriptTail (PySem.Expr.Name _ _) (PySem.Expr.Slice _ _ _ _) (Value.ref _) (Value.ref _)) _ _ _); (k_dflt (first | refine slice_upto (by k_asm) (by k_asm) (by first | with_reducible assumption | exact List.mem_cons_of_mem _ (by with_reducible assumption) | exact List.mem_cons_of_mem _ (List.mem_cons_of_mem _ (by with_reducible assumption)) | walk_at "my:memA") (adj_upto _ _ (Nat.le_of_lt ?b)) ?b ?z ?_ | refine slice_from (by k_asm) (by k_asm) (by first | with_reducible assumption | exact List.mem_cons_of_mem _ (by with_reducible assumption) | exact List.mem_cons_of_mem _ (List.mem_cons_of_mem _ (by with_reducible assumption)) | walk_at "my:memA") (Int.natCast_add _ 1).symm (Nat.succ_le_succ (Nat.zero_le _)) ?b ?z ?_); (case b => simpa using (by assumption)); (case z => simp only [List.size_toArray]; omega); intro D' h' F' N' l1)) | ((with_reducible show wpAny _ _ (subscriptTail (PySem.Expr.Name _ _) (PySem.Expr.UnaryOp _ _ _) (Value.ref _) (Value.int _ _)) _ _ _); (k_dflt (first | refine item_last2 (by k_asm) (by first | with_reducible assumption | exact List.mem_cons_of_mem _ (by with_reducible assumption) | exact List.mem_cons_of_mem _ (List.mem_cons_of_mem _ (by with_reducible assumption)) | walk_at "my:memA" | k_mem) ?_ | refine item_last3 (by k_asm) (by first | with_reducible assumption | exact List.mem_cons_of_mem _ (by with_reducible assumption) | exact List.mem_cons_of_mem _ (List.mem_cons_of_mem _ (by with_reducible assumption)) | walk_at "my:memA" | k_mem) ?_))) | ((with_reducible show wpAny _ _ (storeName _ _ _) _ _ _); (k_dflt (refine store_o (by k_asm) (by k_asm) ?_ (by first | exact rfl | assumption) (by rfl)); intro hw7 mw7 Fw7 Nw7)) | ((with_reducible show wpAny _ _ (eval (PySem.Expr.BinOp _ _ _ _) _) _ _ _); (k_dflt (refine bin_sv (by rfl) (by first | exact rfl | assumption) (by k_asm) (by rfl) (by rfl) ?_))) | ((with_reducible show wpAny _ _ (PySem.isTrue (PySem.Expr.Compare _ [_] [_] _) _ _) _ _ _); (k_dflt (first | refine isTrue_sv (by rfl) (by first | exact rfl | assumption) (by k_asm) (by rfl) (by rfl) ?_ | refine isTrue_sub (by rfl) (by first | exact rfl | assumption) (by k_asm) (by rfl) (by rfl) ?_); (try dsimp only))) | ((with_reducible show wpAny _ _ (eval (PySem.Expr.Tuple _ _ _) _) _ _ _); (k_dflt (refine tuple_svs (by rfl) (by first | exact rfl | assumption) (by k_asm) (by k_asm) (by rfl) (by size_fits) ?_); intro Dw7 hw7 ow7 Fw7 Nw7 lw7)) | ((with_reducible show wpAny _ _ (execs [] _) _ _ _); ((with_reducible refine Mine.gen_tok ?_); intro tk; (with_reducible refine wpAny_execs_nil ?_); (try dsimp only))) | ((with_reducible show wpAny _ _ (execs (_ :: _) _) _ _ _); ((with_reducible refine Mine.gen_tok ?_); intro tk; (with_reducible refine wpAny_execs_cons ?_); (try dsimp only))) | walk1 | (dsimp only; walk1) | (leave1; walk_say "STEP leave1"; try dsimp only) | fail "no step"))
  exact ret _ _ _ _ _ _ _ (by k_asm) (news_two (by k_asm) (mem_set (by k_asm) (by with_reducible assumption)) (by intro q hq; lcg_src)) (by first | kaf_suf | exact lt_sub (by with_reducible assumption) (by intro q hq; lcg_src) | exact lt_sub (by assumption) (by intro q hq; lcg_src)) (fresh3 (by with_reducible assumption) (fresh3 (by with_reducible assumption) (by first | kaf_suf | exact lt_sub (by with_reducible assumption) (by intro q hq; lcg_src) | exact lt_sub (by assumption) (by intro q hq; lcg_src)) (by first | simp only [*] | kaf_suf | exact lt_sub (by with_reducible assumption) (by intro q hq; lcg_src)) (by intro q hq; lcg_src)) (by first | kaf_suf | exact lt_sub (by with_reducible assumption) (by intro q hq; lcg_src) | exact lt_sub (by assumption) (by intro q hq; lcg_src)) (by intro q hq; lcg_src))
set_option maxRecDepth 100000 in
set_option maxHeartbeats 8000000 in
theorem with_vrnt {prog : Program} {w : World} {p : Program} {loose : List Str} {mean : ExcName → Option Value} {mg mb : Str → Option Value} {dp un : Nat} {gd : Option (List Code)} {cn : Str} {cs : Scope} {a : Addr} {ccd : Value} {cl : List (Str × Addr)} {outer : List Env} {A₀ : Around} {base h₀ : Heap} {L : Addr} {m : Str → Option Value} {s : Shared} {Q E : Value → Shared → Prop} {news : List (Addr × Obj)}
    (B : Below A₀ base outer h₀) (F : Fr h₀ L s.heap m) (X : (Mine.kmk.heap_1 w.params).In h₀) (N : News h₀ L s.heap news) (T : Top p loose mean mg mb h₀) (hk : cs.kind = .function) {x p : Addr} {k kp i : Nat} {t ti ty : Tok} {y : Int} {its : List Value} {z : Value} (hm : (x, tup #[.str "variant" t, .int y ty, .ref p] k) ∈ news) (hp : (p, tup its.toArray kp) ∈ news) (hl : its.length ≤ 3) (hi : i < its.length) (hdp : dp + 2 < recursionLimit) (hun : un + 80 < cLine)
    (ret : ∀ T t' p' k' kp' h' tk', Fr h₀ L h' m → News h₀ L h' ((T, tup #[.str "variant" t', .int y ty, .ref p'] k') :: (p', tup (its.set i z).toArray kp') :: news) → AllLt T news → AllLt p' news → Q (.ref T) { s with heap := h', toks := tk' }) :
    wpAny (model prog w) (ktrTop dp un gd cn cs L a ccd cl outer) (call (.ref 119) [.ref x, .int (i : Int) ti, z]) Q E s := by
  refine wpAny_call ?_
  k_dflt ktr_enter
  have hi1 : i + 1 ≤ its.length := hi
  (repeat' (first | (k_unfold; (try dsimp only)) | (k_end; wrow_close) | (first | ((with_reducible show wpAny _ _ (subscriptTail _ _ (Value.ref _) (Value.int 0 _)) _ _ _); k_dflt (refine item_at0 (by k_asm) (by walk_at "my:memA") ?_)) | ((with_reducible show wpAny _ _ (subscriptTail _ _ (Value.ref _) (Value.int 1 _)) _ _ _); k_dflt (refine item_at1 (by k_asm) (by walk_at "my:memA") ?_))) | ((with_reducible show wpAny _ _ (binaryOp Operator.Add (Value.ref _) (Value.ref _)) _ _ _); (k_dflt (refine add_tups (by k_asm) (by k_asm) (by first | with_reducible assumption | exact List.mem_cons_of_mem _ (by with_reducible assumption) | exact List.mem_cons_of_mem _ (List.mem_cons_of_mem _ (by with_reducible assumption)) | walk_at "my:memA") (by first | with_reducible assumption | exact List.mem_cons_of_mem _ (by with_reducible assumption) | exact List.mem_cons_of_mem _ (List.mem_cons_of_mem _ (by with_reducible assumption)) | walk_at "my:memA") ?z ?_); (case z => simp; omega); intro T' n' h' tl' F' N' hm' hl' hT'; (try simp only [List.append_assoc, List.cons_append, List.nil_append] at N' hm'))) | ((with_reducible show wpAny _ _ (subscriptTail (PySem.Expr.Name _ _) (PySem.Expr.Slice _ _ _ _) (Value.ref _) (Value.ref _)) _ _ _); (k_dflt (first | refine slice_upto (by k_asm) (by k_asm) (by first | with_reducible assumption | exact List.mem_cons_of_mem _ (by with_reducible assumption) | exact List.mem_cons_of_mem _ (List.mem_cons_of_mem _ (by with_reducible assumption)) | walk_at "my:memA") (adj_upto _ _ (Nat.le_of_lt ?b)) ?b ?z ?_ | refine slice_from (by k_asm) (by k_asm) (by first | with_reducible assumption | exact List.mem_cons_of_mem _ (by with_reducible assumption) | exact List.mem_cons_of_mem _ (List.mem_cons_of_mem _ (by with_reducible assumption)) | walk_at "my:memA") (Int.natCast_add _ 1).symm (Nat.succ_le_succ (Nat.zero_le _)) ?b ?z ?_); (case b => simpa using (by assumption)); (case z => simp only [List.size_toArray]; omega); intro D' h' F' N' l1)) | ((with_reducible show wpAny _ _ (subscriptTail (PySem.Expr.Name _ _) (PySem.Expr.UnaryOp _ _ _) (Value.ref _) (Value.int _ _)) _ _ _); (k_dflt (first | refine item_last2 (by k_asm) (by first | with_reducible assumption | exact List.mem_cons_of_mem _ (by with_reducible assumption) | exact List.mem_cons_of_mem _ (List.mem_cons_of_mem _ (by with_reducible assumption)) | walk_at "my:memA" | k_mem) ?_ | refine item_last3 (by k_asm) (by first | with_reducible assumption | exact List.mem_cons_of_mem _ (by with_reducible assumption) | exact List.mem_cons_of_mem _ (List.mem_cons_of_mem _ (by with_reducible assumption)) | walk_at "my:memA" | k_mem) ?_))) | ((with_reducible show wpAny _ _ (storeName _ _ _) _ _ _); (k_dflt (refine store_o (by k_asm) (by k_asm) ?_ (by first | exact rfl | assumption) (by rfl)); intro hw7 mw7 Fw7 Nw7)) | ((with_reducible show wpAny _ _ (newTuple _) _ _ _); (k_dflt (refine tuple_o (by k_asm) (by k_asm) (by size_fits) ?_); intro Dw7 hw7 ow7 Fw7 Nw7 lw7)) | ((with_reducible show wpAny _ _ (eval (PySem.Expr.BinOp _ _ _ _) _) _ _ _); (k_dflt (refine bin_sv (by rfl) (by first | exact rfl | assumption) (by k_asm) (by rfl) (by rfl) ?_))) | ((with_reducible show wpAny _ _ (eval (PySem.Expr.Subscript _ _ _) _) _ _ _); (k_dflt (refine sub_sv (by rfl) (by first | exact rfl | assumption) (by k_asm) (by rfl) (by rfl) ?_))) | ((with_reducible show wpAny _ _ (PySem.isTrue (PySem.Expr.Compare _ [_] [_] _) _ _) _ _ _); (k_dflt (first | refine isTrue_sv (by rfl) (by first | exact rfl | assumption) (by k_asm) (by rfl) (by rfl) ?_ | refine isTrue_sub (by rfl) (by first | exact rfl | assumption) (by k_asm) (by rfl) (by rfl) ?_); (try dsimp only))) | ((with_reducible show wpAny _ _ (eval (PySem.Expr.Tuple _ _ _) _) _ _ _); (k_dflt (refine tuple_svs (by rfl) (by first | exact rfl | assumption) (by k_asm) (by k_asm) (by rfl) (by size_fits) ?_); intro Dw7 hw7 ow7 Fw7 Nw7 lw7)) | ((with_reducible show wpAny _ _ (spliced (backTo _ (starEach (_ :: _) _))) _ _ _); (k_dflt (refine spl_g (by rfl) (by first | exact rfl | assumption) (by k_asm) (by rfl) ?_))) | ((with_reducible show wpAny _ _ (execs [] _) _ _ _); ((with_reducible refine Mine.gen_tok ?_); intro tk; (with_reducible refine wpAny_execs_nil ?_); (try dsimp only))) | ((with_reducible show wpAny _ _ (execs (_ :: _) _) _ _ _); ((with_reducible refine Mine.gen_tok ?_); intro tk; (with_reducible refine wpAny_execs_cons ?_); (try dsimp only))) | walk1 | (dsimp only; walk1) | (leave1; walk_say "STEP leave1"; try dsimp only) | fail "no step"))
  exact ret _ _ _ _ _ _ _ (by k_asm) (news_two (by k_asm) (mem_set (by k_asm) (by with_reducible assumption)) (by intro q hq; lcg_src)) (by first | kaf_suf | exact lt_sub (by with_reducible assumption) (by intro q hq; lcg_src) | exact lt_sub (by assumption) (by intro q hq; lcg_src)) (fresh3 (by with_reducible assumption) (fresh3 (by with_reducible assumption) (by first | kaf_suf | exact lt_sub (by with_reducible assumption) (by intro q hq; lcg_src) | exact lt_sub (by assumption) (by intro q hq; lcg_src)) (by first | simp only [*] | kaf_suf | exact lt_sub (by with_reducible assumption) (by intro q hq; lcg_src)) (by intro q hq; lcg_src)) (by first | kaf_suf | exact lt_sub (by with_reducible assumption) (by intro q hq; lcg_src) | exact lt_sub (by assumption) (by intro q hq; lcg_src)) (by intro q hq; lcg_src))
end Mine
end
section
namespace Mine
open PySem.Spec PySem.Calls
theorem allLt_suf2 {d x : Addr} {l l' : List (Addr × Obj)} (h : d < x) (h2 : AllLt d l) (s : ∀ p ∈ l', p ∈ l) : AllLt x l' := allLt_of fun p hp => Nat.lt_trans (allLt_get (allLt_suf h2 s) p hp) h
noncomputable abbrev ent (w : World) (k : String) (t : Tok) (v : Value) : DictEntry := ⟨PyData.keyHash w.params (Str.ofString k), .str (Str.ofString k) t, v⟩
set_option maxRecDepth 100000 in
set_option maxHeartbeats 8000000 in
theorem adt_new {prog : Program} {w : World} {p : Program} {loose : List Str} {mean : ExcName → Option Value} {mg mb : Str → Option Value} {dp un : Nat} {gd : Option (List Code)} {cn : Str} {cs : Scope} {a : Addr} {ccd : Value} {cl : List (Str × Addr)} {outer : List Env} {A₀ : Around} {base h₀ : Heap} {L : Addr} {m : Str → Option Value} {s : Shared} {Q E : Value → Shared → Prop} {news : List (Addr × Obj)}
    (B : Below A₀ base outer h₀) (F : Fr h₀ L s.heap m) (X : (Mine.kmk.heap_1 w.params).In h₀) (N : News h₀ L s.heap news) (T : Top p loose mean mg mb h₀) (hk : cs.kind = .function) {v1 v2 v3 v4 v5 : Value}
    (ret : ∀ x d t1 t2 t3 t4 t5 t6 t7 v6 v7 h' tk', Fr h₀ L h' m → News h₀ L h' ((x, instObj 164 d) :: (d, dictOf [ent w "path" t1 v1, ent w "module" t2 v6, ent w "regions" t3 v2, ent w "params" t4 v3, ent w "variants" t5 v4, ent w "publics" t6 v7, ent w "is_enum" t7 v5] 7) :: news) → AllLt x news → AllLt d news → Q (.ref x) { s with heap := h', toks := tk' }) :
    wpAny (model prog w) (ktrTop 310 20 gd cn cs L a ccd cl outer) (call (.ref 164) [v1, v2, v3, v4, v5]) Q E s := by
  ((k_dflt (refine' call_cls ?k1 ?k2 ?k3 ?k4 ?k5 ?k6 ?_; (case k1 => k_asm); (case k2 => k_asm); (case k3 => k_asm); (case k4 => k_is); (case k5 => k_is); (case k6 => k_is); k_whole; intro x9 d9 h' F' N' l1 l2; (try k_lt l1); (try k_lt2 l2); (try k_sweep); (refine' code_def ?k1 ?k2 ?k3 ?k4 ?k5 ?kA ?kF ?kK ?k6 ?k7 ?k8 ?k9 ?kB ?_ ?c2 ?c3 ?c4 ?c5; (case kA => exact rfl); (case kF => exact rfl); (case kK => assumption); (case k1 => k_asm); (case k2 => k_asm); (case k3 => k_asm); (case k4 => k_asm); (case k5 => k_asm); (case k6 => k_is); (case k7 => k_is); (case k8 => ktr_room); (case k9 => first | exact BindsTo.of_eq rfl | exact binds_K (by k_in) rfl (by k_is) rfl rfl rfl | fail "k_enter: no rule for these arguments"); (case c5 => decide); (case kB => exact locs rfl); (case c2 => exact rfl); (case c3 => exact rfl); (case c4 => exact rfl); k_whole; intro g' L' h' FG' F' N' B' X' T'; (try dsimp only); (try k_lift B'); (try k_fold)))))
  (repeat' (first | (k_unfold; (try dsimp only)) | (k_end; wrow_close) | ((with_reducible show wpAny _ _ (execs [] _) _ _ _); ((with_reducible refine Mine.gen_tok ?_); intro tk; (with_reducible refine wpAny_execs_nil ?_); (try dsimp only))) | ((with_reducible show wpAny _ _ (execs (_ :: _) _) _ _ _); ((with_reducible refine Mine.gen_tok ?_); intro tk; (with_reducible refine wpAny_execs_cons ?_); (try dsimp only))) | walk1 | (dsimp only; walk1) | (leave1; walk_say "STEP leave1"; try dsimp only) | fail "no step"))
  exact ret _ _ _ _ _ _ _ _ _ _ _ _ _ (by k_asm) (by k_asm) (allLt_suf2 l2 l1 fun p hp => hp) l1
theorem news3 {h₀ h : Heap} {L : Addr} {l l' : List (Addr × Obj)} {a b c : Addr × Obj} (N : News h₀ L h l) (ha : a ∈ l) (hb : b ∈ l) (hc : c ∈ l) (s : ∀ p ∈ l', p ∈ l) : News h₀ L h (a :: b :: c :: l') := fun p hp => N p (by
  rcases List.mem_cons.mp hp with rfl | hp
  · exact ha
  rcases List.mem_cons.mp hp with rfl | hp
  · exact hb
  rcases List.mem_cons.mp hp with rfl | hp
  · exact hc
  exact s p hp)
set_option maxRecDepth 100000 in
set_option maxHeartbeats 8000000 in
theorem world_new {prog : Program} {w : World} {p : Program} {loose : List Str} {mean : ExcName → Option Value} {mg mb : Str → Option Value} {dp un : Nat} {gd : Option (List Code)} {cn : Str} {cs : Scope} {a : Addr} {ccd : Value} {cl : List (Str × Addr)} {outer : List Env} {A₀ : Around} {base h₀ : Heap} {L : Addr} {m : Str → Option Value} {s : Shared} {Q E : Value → Shared → Prop} {news : List (Addr × Obj)}
    (B : Below A₀ base outer h₀) (F : Fr h₀ L s.heap m) (X : (Mine.kmk.heap_1 w.params).In h₀) (N : News h₀ L s.heap news) (T : Top p loose mean mg mb h₀) (hk : cs.kind = .function)
    (ret : ∀ x d da oA t1 t2 t3 t4 t5 t6 t7 t8 v1 v3 v4 v5 v6 v7 v8 h' tk', Fr h₀ L h' m → News h₀ L h' ((x, instObj 193 d) :: (d, dictOf [ent w "modules" t1 v1, ent w "adts" t2 (.ref da), ent w "variants" t3 v3, ent w "sigs" t4 v4, ent w "traits" t5 v5, ent w "impls" t6 v6, ent w "consts" t7 v7, ent w "bodies" t8 v8] 8) :: (da, oA) :: news) → oA.IsDictOf (strKind prog w) [] → (da == sysModules) = false → x < da → d < da → AllLt x news → AllLt d news → AllLt da news → Q (.ref x) { s with heap := h', toks := tk' }) :
    wpAny (model prog w) (ktrTop 310 20 gd cn cs L a ccd cl outer) (call (.ref 193) []) Q E s := by
  ((k_dflt (refine' call_cls ?k1 ?k2 ?k3 ?k4 ?k5 ?k6 ?_; (case k1 => k_asm); (case k2 => k_asm); (case k3 => k_asm); (case k4 => k_is); (case k5 => k_is); (case k6 => k_is); k_whole; intro x9 d9 h' F' N' l1 l2; (try k_lt l1); (try k_lt2 l2); (try k_sweep); (refine' code_def ?k1 ?k2 ?k3 ?k4 ?k5 ?kA ?kF ?kK ?k6 ?k7 ?k8 ?k9 ?kB ?_ ?c2 ?c3 ?c4 ?c5; (case kA => exact rfl); (case kF => exact rfl); (case kK => assumption); (case k1 => k_asm); (case k2 => k_asm); (case k3 => k_asm); (case k4 => k_asm); (case k5 => k_asm); (case k6 => k_is); (case k7 => k_is); (case k8 => ktr_room); (case k9 => first | exact BindsTo.of_eq rfl | exact binds_K (by k_in) rfl (by k_is) rfl rfl rfl | fail "k_enter: no rule for these arguments"); (case c5 => decide); (case kB => exact locs rfl); (case c2 => exact rfl); (case c3 => exact rfl); (case c4 => exact rfl); k_whole; intro g' L' h' FG' F' N' B' X' T'; (try dsimp only); (try k_lift B'); (try k_fold)))))
  (repeat' (first | (k_unfold; (try dsimp only)) | (k_end; wrow_close) | ((with_reducible show wpAny _ _ (eval (PySem.Expr.List _ _) _) _ _ _); (k_dflt (refine list_svs (by rfl) (by first | exact rfl | assumption) (by k_asm) (by k_asm) (by rfl) (by size_fits) ?_); intro Dw7 hw7 ow7 Fw7 Nw7 lw7)) | ((with_reducible show wpAny _ _ (execs [] _) _ _ _); ((with_reducible refine Mine.gen_tok ?_); intro tk; (with_reducible refine wpAny_execs_nil ?_); (try dsimp only))) | ((with_reducible show wpAny _ _ (execs (_ :: _) _) _ _ _); ((with_reducible refine Mine.gen_tok ?_); intro tk; (with_reducible refine wpAny_execs_cons ?_); (try dsimp only))) | walk1 | (dsimp only; walk1) | (leave1; walk_say "STEP leave1"; try dsimp only) | fail "no step"))
  exact ret x9 d9 _ _ _ _ _ _ _ _ _ _ _ _ _ _ _ _ _ _ _ (by k_asm) (news3 (by k_asm) (by lcg_src) (by lcg_src) (by lcg_src) (by intro p hp; lcg_src)) (by assumption) (by assumption) (by kaf_pre) (by kaf_pre) (allLt_suf2 l2 l1 fun p hp => hp) l1 (by kaf_suf)
end Mine
end
section
namespace Mine
open PySem.Spec PySem.Calls
theorem among_other {pos : Pos} {a b : Int} {c : Value} (hne : ¬ (a = pos.line ∧ b = pos.col)) : ∀ (l : List Value), TriplesOk l → codeAmong pos (l ++ [rawInt a, rawInt b, c]) = codeAmong pos l := by
  intro l h
  fun_induction TriplesOk l with
  | case1 =>
    simp only [List.nil_append, codeAmong, rawInt]
    rw [if_neg (by simpa using hne)]
  | case2 a' t b' u x rest ih =>
    simp only [List.cons_append, codeAmong]
    split
    · rfl
    · exact ih h
  | case3 l h1 h2 => exact h.elim
noncomputable def TabOk (line col : Int) (qual : Str) (ps : Array Value) (n : List (Addr × Obj)) : Prop := TriplesOk ps.toList ∧ ∀ pos : Pos, pos.line = line → pos.col = col →
  (codeAmong pos ps.toList = none ∨ ∃ c' oc vs t, codeAmong pos ps.toList = some (.ref c') ∧ (c', oc) ∈ n ∧ oc.data = .fields vs ∧ vs[1]? = some (.str qual t))
theorem TabOk.nil {l c : Int} {q : Str} {n : List (Addr × Obj)} : TabOk l c q #[] n := ⟨trivial, fun _ _ _ => .inl rfl⟩
theorem TabOk.mono {l c : Int} {q : Str} {ps : Array Value} {n n' : List (Addr × Obj)} (h : TabOk l c q ps n) (s : ∀ p ∈ n, p ∈ n') : TabOk l c q ps n' :=
  ⟨h.1, fun pos a b => (h.2 pos a b).imp id fun ⟨c', oc, vs, t, x, y, z⟩ => ⟨c', oc, vs, t, x, s _ y, z⟩⟩
noncomputable def TabFull (line col : Int) (ps : Array Value) : Prop := ∀ pos : Pos, pos.line = line → pos.col = col → codeAmong pos ps.toList ≠ none
theorem among_same {pos pos' : Pos} (a : (pos'.line : Int) = pos.line) (b : (pos'.col : Int) = pos.col) (l : List Value) : codeAmong pos' l = codeAmong pos l := by
  have a' : pos'.line = pos.line := by omega
  have b' : pos'.col = pos.col := by omega
  fun_induction codeAmong pos l with
  | case1 l t c u cc rest hc => simp only [codeAmong]; rw [a', b', if_pos hc]
  | case2 l t c u cc rest hc ih => simp only [codeAmong]; rw [a', b', if_neg hc]; exact ih
  | case3 l hh => unfold codeAmong; split <;> first | rfl | (exact absurd rfl (hh _ _ _ _ _ _))
noncomputable def TabStep (line col : Int) (qual : Str) (ps ps' : Array Value) (c' : Addr) : Prop := ∀ n' oc vs t, (c', oc) ∈ n' → oc.data = .fields vs → vs[1]? = some (.str qual t) → TabOk line col qual ps' n' ∧ ∀ l2 c2 q2, ¬ (line = l2 ∧ col = c2) → TabOk l2 c2 q2 ps n' → TabOk l2 c2 q2 ps' n'
theorem TabStep.made {pos : Pos} {q : Str} {ps : Array Value} {c' : Addr} (h : TriplesOk ps.toList) (hn : codeAmong pos ps.toList = none) : TabStep pos.line pos.col q ps (ps ++ #[rawInt pos.line, rawInt pos.col, .ref c']) c' := fun n' oc vs t hm d1 d2 => by
  have e : ∀ pos' : Pos, pos'.line = pos.line → pos'.col = pos.col → codeAmong pos' ps.toList = none := fun pos' a b => by
    rw [among_same (pos := pos) (pos' := pos') (by omega) (by omega)]; exact hn
  have ht : TriplesOk (ps ++ #[rawInt pos.line, rawInt pos.col, .ref c']).toList := by simpa using TriplesOk_snoc pos.line pos.col (.ref c') ps.toList h
  refine ⟨⟨ht, fun pos' a b => .inr ⟨c', oc, vs, t, ?_, hm, d1, d2⟩⟩, fun l2 c2 q2 hne hT => ⟨ht, fun pos' a b => ?_⟩⟩
  · have z := codeAmong_snoc (pos := pos') (c := .ref c') ps.toList h (e pos' (by omega) (by omega))
    rw [a, b] at z
    simpa using z
  · have z := among_other (pos := pos') (a := pos.line) (b := pos.col) (c := .ref c') (by rw [a, b]; exact hne) ps.toList h
    have z' : codeAmong pos' (ps ++ #[rawInt pos.line, rawInt pos.col, .ref c']).toList = codeAmong pos' ps.toList := by simpa using z
    rw [z']
    exact hT.2 pos' a b
theorem TabStep.same {pos : Pos} {q : Str} {ps : Array Value} {c' : Addr} {n : List (Addr × Obj)} (h : TabOk pos.line pos.col q ps n) (hn : codeAmong pos ps.toList = some (.ref c')) : TabStep pos.line pos.col q ps ps c' := fun n' oc vs t hm d1 d2 => by
  have e : ∀ pos' : Pos, pos'.line = pos.line → pos'.col = pos.col → codeAmong pos' ps.toList = some (.ref c') := fun pos' a b => by
    rw [among_same (pos := pos) (pos' := pos') (by omega) (by omega)]; exact hn
  exact ⟨⟨h.1, fun pos' a b => .inr ⟨c', oc, vs, t, e pos' (by omega) (by omega), hm, d1, d2⟩⟩, fun _ _ _ _ z => z⟩
theorem TabFull.made {pos : Pos} {ps : Array Value} {c : Value} (h : TriplesOk ps.toList) (hn : codeAmong pos ps.toList = none) : TabFull pos.line pos.col (ps ++ #[rawInt pos.line, rawInt pos.col, c]) := fun pos' a b => by
  rw [among_same a b]
  have z := codeAmong_snoc (pos := pos) (c := c) ps.toList h hn
  rw [show (ps ++ #[rawInt pos.line, rawInt pos.col, c]).toList = ps.toList ++ [rawInt pos.line, rawInt pos.col, c] by simp, z]
  exact Option.some_ne_none _
theorem TabFull.of {pos : Pos} {ps : Array Value} {c : Value} (hn : codeAmong pos ps.toList = some c) : TabFull pos.line pos.col ps := fun pos' a b => by
  rw [among_same a b, hn]
  exact Option.some_ne_none _
theorem updF_same {d : Addr} {o : Obj} {l : List (Addr × Obj)} {g : Obj → List (Addr × Obj)} (U : UpdF d o l g) : g o = l := by
  obtain ⟨a, b, rfl, e, -⟩ := U.split
  exact e o
theorem updF_mem {d : Addr} {o : Obj} {l : List (Addr × Obj)} {g : Obj → List (Addr × Obj)} (U : UpdF d o l g) : (d, o) ∈ l := by
  obtain ⟨a, b, rfl, e, -⟩ := U.split
  exact List.mem_append_right _ (.head _)
section
variable {M : Model} {prog : Program} {w : World} {A : Around} {E : Value → Shared → Prop} {s : Shared} {h₀ : Heap} {L a c P : Addr} {m mg mb : Str → Option Value} {cn : Str} {cs : Scope} {ccd : Value} {cl : List (Str × Addr)} {news : List (Addr × Obj)} {g : Obj → List (Addr × Obj)}
  {p : Program} {loose : List Str} {mean : ExcName → Option Value} {name qual : Str} {params : Arguments} {body : List Stmt} {ebody : PySem.Expr} {scope : Scope} {pos : Pos} {firstLine : Nat} {clos : List (Str × Addr)}
theorem def_tab {Q : Value → Shared → Prop} {ps : Array Value} (F : Fr h₀ L s.heap m) (N : News h₀ L s.heap news) (T : Top p loose mean mg mb h₀) (C : CodeHd h₀ c P) (hcd : ccd = .ref c) (U : UpdF P (tabObj ps) news g) {n : List (Addr × Obj)} (hT : TabOk pos.line pos.col qual ps n)
    (hcl : closureFor scope (envX cn cs L a ccd cl) = pure clos)
    (h : ∀ f c' oc vs t ctv doc ps' tl h' tk, Fr h₀ L h' m →
      News h₀ L h' ((f, fnMade name qual params body scope clos doc ((mg "__name__").getD .none) c' ctv) :: (tl ++ g (tabObj ps'))) →
      (c', oc) ∈ tl ++ n → oc.data = .fields vs → vs[1]? = some (.str qual t) → TabStep pos.line pos.col qual ps ps' c' → TabFull pos.line pos.col ps' → (TabFull pos.line pos.col ps → ps' = ps) → (∀ q ∈ tl, AllLt q.1 news) → AllLt f news → Q (.ref f) { s with heap := h', toks := tk }) :
    wpAny M A (makeFunction name qual params (.stmts body) scope (envX cn cs L a ccd cl) [] [] [] pos firstLine) Q E s := by
  rcases hT.2 pos rfl rfl with hn | ⟨c', oc, vs, t, e, hm, d1, d2⟩
  · refine nest_K F N T C hcd U hT.1 hn hcl fun f c' oc vs t ctv doc h' tk F' N' d1 d2 l1 l2 => ?_
    refine h f c' oc vs t ctv doc _ [(c', oc)] h' tk F' N' (.head _) d1 d2 (TabStep.made hT.1 hn) (TabFull.made hT.1 hn) (fun z => absurd hn (z pos rfl rfl)) (lt_cons (allLt_of l1) lt_nil) (allLt_of fun q hq => Nat.lt_trans (l1 q hq) l2)
  · refine nestHit_K F N T C hcd (updF_mem U) hT.1 e hcl fun f ctv doc h' tk F' N' l => ?_
    have eg := updF_same U
    exact h f c' oc vs t ctv doc ps [] h' tk F' (by rw [List.nil_append, eg]; exact N') hm d1 d2 (TabStep.same hT e) (TabFull.of e) (fun _ => rfl) lt_nil (allLt_of l)
theorem lam_tab {Q : Value → Shared → Prop} {ps : Array Value} (F : Fr h₀ L s.heap m) (N : News h₀ L s.heap news) (T : Top p loose mean mg mb h₀) (C : CodeHd h₀ c P) (hcd : ccd = .ref c) (U : UpdF P (tabObj ps) news g) {n : List (Addr × Obj)} (hT : TabOk pos.line pos.col qual ps n)
    (hcl : closureFor scope (envX cn cs L a ccd cl) = pure clos)
    (h : ∀ f c' oc vs t ctv ps' tl h' tk, Fr h₀ L h' m →
      News h₀ L h' ((f, kla_obj name qual params ebody scope clos ((mg "__name__").getD .none) c' ctv) :: (tl ++ g (tabObj ps'))) →
      (c', oc) ∈ tl ++ n → oc.data = .fields vs → vs[1]? = some (.str qual t) → TabStep pos.line pos.col qual ps ps' c' → TabFull pos.line pos.col ps' → (TabFull pos.line pos.col ps → ps' = ps) → (∀ q ∈ tl, AllLt q.1 news) → AllLt f news → Q (.ref f) { s with heap := h', toks := tk }) :
    wpAny M A (makeFunction name qual params (.expr ebody) scope (envX cn cs L a ccd cl) [] [] [] pos firstLine) Q E s := by
  rcases hT.2 pos rfl rfl with hn | ⟨c', oc, vs, t, e, hm, d1, d2⟩
  · refine kla_nest F N T C hcd U hT.1 hn hcl fun f c' oc vs t ctv h' tk F' N' d1 d2 l1 l2 => ?_
    refine h f c' oc vs t ctv _ [(c', oc)] h' tk F' N' (.head _) d1 d2 (TabStep.made hT.1 hn) (TabFull.made hT.1 hn) (fun z => absurd hn (z pos rfl rfl)) (lt_cons (allLt_of l1) lt_nil) (allLt_of fun q hq => Nat.lt_trans (l1 q hq) l2)
  · refine kla_hit F N T C hcd (updF_mem U) hT.1 e hcl fun f ctv h' tk F' N' l => ?_
    have eg := updF_same U
    exact h f c' oc vs t ctv ps [] h' tk F' (by rw [List.nil_append, eg]; exact N') hm d1 d2 (TabStep.same hT e) (TabFull.of e) (fun _ => rfl) lt_nil (allLt_of l)
end
end Mine
end
section
namespace Mine
open PySem.Spec PySem.Calls
theorem zip_keys_none : typeLookup (.type "zip") "keys" = pure none := by rw [typeLookup_type, builtinLookup_eq_fast]; kernel_rfl
theorem zip_getattr_none : typeLookup (.type "zip") "__getattr__" = pure none := by rw [typeLookup_type, builtinLookup_eq_fast]; kernel_rfl
theorem zip_entry_ga : entryFor table "zip.__getattribute__" = some Builtin.«object.__getattribute__» :=
  entryFor_alias (id' := "object.__getattribute__") (by rw [fastTable_eq_tree]; kernel_rfl) (by rfl) (by decide +kernel) (by rw [fastTable_eq_tree]; kernel_rfl)
noncomputable def zipObj (f0 : Value) (TI TO : Addr) : Obj := { cls := .type "zip", dict := none, data := .fields #[f0, .bool false, .bool false, .ref TI, .ref TO], slots := #[] }
theorem zip_miss (a : Addr) (xs : Array Value) (name : Str) (u : Tok) (hmiss : typeLookup (.type "zip") name = pure none) (hname : (["__module__", "__name__", "__qualname__", "__doc__", "__annotations__"] : List Str).contains name = false) (hsz : name.length + 100 ≤ sizeLine := by size_fits) :
    Meets (Builtin.«object.__getattribute__» ⟨[.ref a, .str name u], []⟩) (fun A R s => s.heap.get? a = some { cls := .type "zip", dict := none, data := .fields xs, slots := #[] } ∧ raisesAttr (.ref a) name A R s) :=
  Meets.of_wp fun prog w A R s hs => by
    obtain ⟨hp, g, d, tk, os⟩ := s
    obtain ⟨hx, hs⟩ := hs
    have hT : (⟨hp, g, d, tk, os⟩ : Shared).TypeIs (.ref a) "zip" := ⟨_, hx, rfl⟩
    unfold Builtin.«object.__getattribute__»
    repeat (any_goals (first | assumption | wp_step))
    simp only [hname, Bool.false_eq_true, if_false]
    repeat (any_goals (first | assumption | wp_step))
    exact wpAny_raiseAttrError hs.1 hs.2 (attrMsg_fits (by decide +kernel) hsz)
section
variable {prog : Program} {w : World} {A : Around} {E : Value → Shared → Prop} {s : Shared}
set_option maxRecDepth 100000 in
theorem zip_nokeys {a : Addr} {xs : Array Value} {Q : Option Value → Shared → Prop}
    (hx : s.heap.get? a = some { cls := .type "zip", dict := none, data := .fields xs, slots := #[] }) (hA : A.handled = none)
    (h : ∀ h' tk, (∀ b ob, s.heap.get? b = some ob → h'.get? b = some ob) → Q none { s with heap := h', toks := tk }) :
    wpAny (model prog w) A (getAttr? (.ref a) "keys") Q E s := by
  obtain ⟨hp, g, d, tk, os⟩ := s
  have hT : ∀ tk', (⟨hp, g, d, tk', os⟩ : Shared).TypeIs (.ref a) "zip" := fun _ => ⟨_, hx, rfl⟩
  have f1 := sub_AttributeError
  have f3 := F.slot_zip_getattribute.lookup
  have f4 := F.slot_zip_getattribute.bind (.ref a)
  have f5 := zip_getattr_none
  unfold getAttr? getAttrBy? getAttrBy
  repeat (any_goals (first | assumption | exact hT _ | ((with_reducible show wpAny _ _ (call (Value.builtin "zip.__getattribute__") _ _) _ _ _); refine call_meets F.slot_zip_getattribute (hT _) zip_entry_ga (F.args_zip_getattribute_2 _ _) (zip_miss a xs _ _ zip_keys_none (by decide +kernel)) ⟨hx, hA, fun h' tk' e hx' => ?_⟩) | wp_step))
  obtain ⟨t', u', he⟩ := hx'.there
  show wpAny _ _ (getattributeRaised _ _ _ _ _ _ _) _ _ _
  unfold getattributeRaised
  repeat (any_goals (first | assumption | wp_step))
  exact h _ _ hx'.keeps
theorem nextOf_tuple_end {it l : Addr} {items} {Q : Value → Shared → Prop} (hh : A.handled = none)
    (hit : s.heap.IsTupleIter it l 0) (hl : s.heap.IsTuple l items) (hx : items[0]? = none)
    (hE : ∀ h' e, Heap.ExtBut it s.heap h' → (∃ o, h'.get? e = some o ∧ o.cls = .type "StopIteration") → E (.ref e) { s with heap := h' }) :
    wpAny (model prog w) A (Builtin.SmallTypes.nextOf (.ref it)) Q E s := by
  obtain ⟨o, ho, hc, hd⟩ := id hit
  obtain ⟨ol, hol, _, nl, hdl⟩ := hl
  unfold Builtin.SmallTypes.nextOf
  refine wpAny_bind (wpAny_callSpecial?_slot (name := Str.ofString "__next__") hit.typeIs F.slot_tuple_iterator_next
    (wpAny_call_entry F.slot_tuple_iterator_next hit.typeIs F.entry_tuple_iterator_next ?_ (F.args_tuple_iterator_next_1 _)))
  show wpAny _ _ (field (.ref it) 0 >>= _) _ _ s
  refine wpAny_bind (wpAny_field ho hd (x := .ref l) rfl ?_)
  show wpAny _ _ (if (Value.ref l == Value.none) = true then _ else _) _ _ s
  rw [if_neg (show ¬ ((Value.ref l == Value.none) = true) from Bool.false_ne_true)]
  show wpAny _ _ (field (.ref it) 1 >>= _) _ _ s
  refine wpAny_bind (wpAny_field ho hd (x := .int 0 0) rfl ?_)
  show wpAny _ _ (seqItems? (.ref l) >>= _) _ _ s
  refine wpAny_bind (wpAny_seqItems hol hdl ?_)
  simp only [Int.toNat_zero, hx]
  refine wpAny_bind (wpAny_rule (wpAny_bind (wpAny_setField ho hd (by simp) ?_)))
  show wpAny _ _ (newExc (.type "StopIteration") [] >>= _) _ _ _
  refine wpAny_bind ?_
  simp only [newExc, newTuple]
  refine wpAny_bind (wpAny_newObj_type ?_ (by size_fits))
  refine wpAny_bind (m := firstArgMember _ _) (wpAny_of_eq (a := Value.none) (by first | rfl | (simp only [firstArgMember]; rfl)) ?_)
  refine wpAny_newObj_type ?_ (by size_fits)
  simp only [raiseNew]
  refine wpAny_bind (wpAny_handled ?_)
  first | rw [show A.in1.handled = none from hh] | rw [hh]
  refine wpAny_bind (wpAny_pure (wpAny_throw ?_))
  exact hE _ _ (((Heap.SameBut.update ..).extBut.push _).push _) ⟨_, Heap.get?_push_size _ rfl, rfl⟩
theorem zip_end0 {z TI TO i1 i2 l1 : Addr} {Q : Option Value → Shared → Prop} (hh : A.handled = none) (hi1z : i1 ≠ z) (hl1z : l1 ≠ z)
    (hz : IsZip s.heap z TI TO .none) (hTI : IsPair s.heap TI (.ref i1) (.ref i2)) 
    (h1 : s.heap.IsTupleIter i1 l1 0) (hl1 : s.heap.IsTuple l1 #[])
    (hQ : ∀ h', (∀ c o, c ≠ z → c ≠ i1 → s.heap.get? c = some o → h'.get? c = some o) → Q none { s with heap := h' }) : wpAny (model prog w) A (pyNext (.ref z)) Q E s := by
  have hT : s.TypeIs (.ref z) "zip" := ⟨_, hz, rfl⟩
  unfold pyNext
  refine wpAny_bind (wpAny_attempt (wpAny_callSpecial?_slot (name := Str.ofString "__next__") hT F.slot_zip_next
    (wpAny_call_entry F.slot_zip_next hT F.entry_zip_next ?_ (F.args_zip_next_1 _))))
  show wpAny _ _ (field (.ref z) 2 >>= _) _ _ _
  refine wpAny_bind (wpAny_field hz rfl (x := .bool false) rfl ?_)
  show wpAny _ _ (field (.ref z) 3 >>= _) _ _ _
  refine wpAny_bind (wpAny_field hz rfl (x := .ref TI) rfl ?_)
  refine wpAny_bind (wpAny_seqItems hTI rfl ?_)
  show wpAny _ _ (Builtin.SmallTypes.ownedTupleIsFree (.ref z) >>= _) _ _ _
  refine wpAny_bind ?_
  unfold Builtin.SmallTypes.ownedTupleIsFree
  refine wpAny_bind (wpAny_field hz rfl (x := .none) rfl (wpAny_pure ?_))
  simp only [if_true]
  refine wpAny_bind (wpAny_rule ?_)
  refine wpAny_bind (wpAny_field hz rfl (x := .ref TO) rfl ?_)
  refine wpAny_bind (wpAny_setField_rec hz (by simp) fun h₁ hz₁ hs₁ => ?_)
  replace hz₁ : IsZip h₁ z TI TO .ellipsis := hz₁
  refine wpAny_bind ?_
  simp only [List.zipIdx_cons, List.zipIdx_nil, List.forIn_cons, List.forIn_nil]
  refine wpAny_bind (wpAny_bind (wpAny_onRaise ?_))
  show wpAny _ _ (Builtin.SmallTypes.nextOf (.ref i1) >>= _) _ _ _
  refine wpAny_bind (nextOf_tuple_end (by simp [hh]) (h1.extBut hs₁.extBut hi1z) (hl1.extBut hs₁.extBut hl1z) rfl fun h₂ e hs₂ he => ?_)
  obtain ⟨oe, hoe, hce⟩ := he
  have hz₂ : IsZip h₂ z TI TO .ellipsis := hs₂ _ _ hi1z.symm hz₁
  have hez : e ≠ z := fun x => by subst x; rw [hz₂] at hoe; cases hoe; simp at hce
  refine wpAny_setField_rec hz₂ (by simp) fun h₃ _ hs₃ => ?_
  refine wpAny_bind (wpAny_isInstance (T := "StopIteration") (b := true) ⟨oe, hs₃.extBut _ _ hez hoe, hce⟩ isSubtype_stop ?_)
  exact wpAny_pure (hQ _ fun c o c1 c3 x => hs₃.extBut _ _ c1 (hs₂ _ _ c3 (hs₁.extBut _ _ c1 x)))
end
end Mine
end
section
namespace Mine
open PySem.Spec PySem.Calls
noncomputable def iterObj (l : Addr) : Obj := { cls := .type "tuple_iterator", data := .fields #[.ref l, .int 0 0] }
noncomputable def zipNews (i : Nat) (l1 l2 : Addr) : List (Addr × Obj) := [(i + 4, zipObj .none (i + 2) (i + 3)), (i + 3, { cls := .type "tuple", data := .seq #[.none, .none] }), (i + 2, { cls := .type "tuple", data := .seq #[.ref i, .ref (i + 1)] }), (i + 1, iterObj l2), (i, iterObj l1)]
noncomputable abbrev zH1 (h : Heap) (l1 : Addr) : Heap := h.push (iterObj l1)
noncomputable abbrev zH2 (h : Heap) (l1 l2 : Addr) : Heap := (zH1 h l1).push (iterObj l2)
noncomputable abbrev zH3 (h : Heap) (l1 l2 : Addr) : Heap := (zH2 h l1 l2).push { cls := .type "tuple", data := .seq #[.ref h.objs.size, .ref (zH1 h l1).objs.size] }
noncomputable abbrev zH4 (h : Heap) (l1 l2 : Addr) : Heap := (zH3 h l1 l2).push { cls := .type "tuple", data := .seq #[.none, .none] }
noncomputable abbrev zH5 (h : Heap) (l1 l2 : Addr) : Heap := (zH4 h l1 l2).push (zipObj .none (zH2 h l1 l2).objs.size (zH3 h l1 l2).objs.size)
theorem meets_zip_tup (l1 l2 : Addr) :
    Meets (Builtin.«zip.__new__» ⟨[.type "zip", .ref l1, .ref l2], []⟩) (fun _ R s => s.heap.IsTuple l1 #[] ∧ s.heap.IsTuple l2 #[] ∧
      R (.ok (.ret (.ref (zH4 s.heap l1 l2).objs.size))) { s with heap := zH5 s.heap l1 l2 }) :=
  .of_wp fun prog w A R s h => by
    obtain ⟨hp, g, d, tk, os⟩ := s; obtain ⟨hl1, hl2, h⟩ := h
    have hsub := sub_zip
    have hL1 : Heap.IsTuple (Shared.heap ⟨hp, g, d, tk, os⟩) l1 #[] := hl1
    have hL2 : Heap.IsTuple (Shared.heap ⟨hp.push { cls := .type "tuple_iterator", data := .fields #[.ref l1, .int 0 0] }, g, d, tk, os⟩) l2 #[] := Heap.IsTuple.push hl2 _
    wp_walk using wpAny_pyIter_tuple hL1, wpAny_pyIter_tuple hL2
    exact ⟨_, rfl, h⟩
section
variable {prog : Program} {w : World} {A : Around} {E : Value → Shared → Prop} {s : Shared} {h₀ : Heap} {L : Addr} {m : Str → Option Value} {news : List (Addr × Obj)}
theorem zip_K {l1 l2 : Addr} {k1 k2 : Nat} {Q : Value → Shared → Prop} (F : Fr h₀ L s.heap m) (N : News h₀ L s.heap news) (h1 : (l1, tup #[] k1) ∈ news) (h2 : (l2, tup #[] k2) ∈ news)
    (k : ∀ i h', Fr h₀ L h' m → News h₀ L h' (zipNews i l1 l2 ++ news) → AllLt i news → Q (.ref (i + 4)) { s with heap := h' }) :
    wpAny (model prog w) A (call (.type "zip") [.ref l1, .ref l2]) Q E s := by
  refine callType_new PySem.F.called_zip (by decide) (PySem.F.typeCall_zip_2 _ _) (PySem.F.newCall_zip_2 _ _) (fun obj => PySem.F.args_object_init_3 obj _ _) PySem.F.entry_zip_new
    (meets_zip_tup l1 l2) ⟨⟨_, N.get h1, rfl, _, rfl⟩, ⟨_, N.get h2, rfl, _, rfl⟩, ?_⟩
  have z1 : (zH1 s.heap l1).objs.size = s.heap.objs.size + 1 := Heap.size_push ..
  have z2 : (zH2 s.heap l1 l2).objs.size = s.heap.objs.size + 2 := by rw [Heap.size_push, z1]
  have z3 : (zH3 s.heap l1 l2).objs.size = s.heap.objs.size + 3 := by rw [Heap.size_push, z2]
  have z4 : (zH4 s.heap l1 l2).objs.size = s.heap.objs.size + 4 := by rw [Heap.size_push, z3]
  have F1 := F.push (iterObj l1)
  have N1 := N.push F (iterObj l1)
  have F2 := F1.push (iterObj l2)
  have N2 := N1.push F1 (iterObj l2)
  have F3 := F2.push { cls := .type "tuple", data := .seq #[.ref s.heap.objs.size, .ref (zH1 s.heap l1).objs.size] }
  have N3 := N2.push F2 { cls := .type "tuple", data := .seq #[.ref s.heap.objs.size, .ref (zH1 s.heap l1).objs.size] }
  have F4 := F3.push { cls := .type "tuple", data := .seq #[.none, .none] }
  have N4 := N3.push F3 { cls := .type "tuple", data := .seq #[.none, .none] }
  have F5 := F4.push (zipObj .none (zH2 s.heap l1 l2).objs.size (zH3 s.heap l1 l2).objs.size)
  have N5 := N4.push F4 (zipObj .none (zH2 s.heap l1 l2).objs.size (zH3 s.heap l1 l2).objs.size)
  refine ⟨⟨_, Heap.get?_push_size _ rfl, rfl⟩, ?_⟩
  show Q (.ref (zH4 s.heap l1 l2).objs.size) _
  rw [z4]
  refine k s.heap.objs.size _ F5 ?_ (allLt_of fun p hp => Heap.lt_size (N p hp).1)
  unfold zipNews
  rw [← z4, ← z3, ← z2, ← z1]
  exact N5
theorem dict_zip {i l1 l2 : Addr} {k1 : Nat} {Q : Value → Shared → Prop} (F : Fr h₀ L s.heap m) (N : News h₀ L s.heap (zipNews i l1 l2 ++ news)) (hlt : AllLt i news) (h1 : (l1, tup #[] k1) ∈ news) (hbig : h₀.NoLimit) (hh : A.handled = none)
    (k : ∀ D o h' tk, Fr h₀ L h' m → News h₀ L h' ((D, o) :: news) → AllLt D news → (D == sysModules) = false → o.IsDictOf (strKind prog w) [] → Q (.ref D) { s with heap := h', toks := tk }) :
    wpAny (model prog w) A (call (.type "dict") [.ref (i + 4)]) Q E s := by
  have hz : IsZip s.heap (i + 4) (i + 2) (i + 3) .none := (N _ (.head _)).1
  have hzL : L ≠ i + 4 := Ne.symm (N _ (.head _)).2.1
  have hz0 : h₀.get? (i + 4) = none := (N _ (.head _)).2.2
  have hi1 : s.heap.get? i = some (iterObj l1) := (N (i, iterObj l1) (.tail _ (.tail _ (.tail _ (.tail _ (.head _)))))).1
  have hiL : L ≠ i := Ne.symm (N (i, iterObj l1) (.tail _ (.tail _ (.tail _ (.tail _ (.head _)))))).2.1
  have hi0 : h₀.get? i = none := (N (i, iterObj l1) (.tail _ (.tail _ (.tail _ (.tail _ (.head _)))))).2.2
  have hTI : IsPair s.heap (i + 2) (.ref i) (.ref (i + 1)) := (N (i + 2, _) (.tail _ (.tail _ (.head _)))).1
  have hl := (N _ (List.mem_append_right _ h1)).1
  refine callType_codes (Q₁ := fun obj s₁ => obj = .ref s.heap.objs.size ∧ s₁ = { s with heap := s.heap.push { cls := .type "dict", data := .dict #[] } }) PySem.F.kt_called_dict (PySem.F.kt_typeCall_dict_1 _) PySem.F.entry_dict_init (kt_code_dict_new _ ⟨rfl, rfl⟩) ?_
  rintro obj s₁ ⟨rfl, rfl⟩
  have hnew : (s.heap.push { cls := .type "dict", data := .dict #[] }).DictOf (strKind prog w) s.heap.objs.size [] := Heap.DictOf.new s.heap
  have up : ∀ b o, s.heap.get? b = some o → (s.heap.push { cls := .type "dict", data := .dict #[] }).get? b = some o := fun b o e => Heap.get?_push_of_some _ e
  refine ⟨hnew.typeIs, PySem.F.args_dict_init_2 _ _, ?_⟩
  unfold Builtin.«dict.__init__»
  refine wpAny_bind ?_
  unfold Builtin.Dict.selfAndRest
  refine wpAny_bind (wpAny_notOrdered_dict hnew.typeIs ?_)
  show wpAny _ _ (pure (s.heap.objs.size, [Value.ref (i + 4)])) _ _ _
  refine wpAny_pure ?_
  show wpAny _ _ (Builtin.Dict.updateFrom "dict.__init__" s.heap.objs.size (.ref (i + 4)) [] .none) _ _ _
  unfold Builtin.Dict.updateFrom
  refine wpAny_bind (wpAny_typeOf (T := "zip") ⟨_, up _ _ hz, rfl⟩ ?_)
  rw [if_pos (by decide)]
  refine wpAny_bind (zip_nokeys (up _ _ hz) ?_ fun g1 tk1 hk1 => ?_)
  · simp [hh]
  rw [if_pos (by rfl)]
  have up1 : ∀ b o, s.heap.get? b = some o → g1.get? b = some o := fun b o e => hk1 b o (up b o e)
  refine wpAny_bind (wpAny_rule (wpAny_bind (wpAny_pyIter_zip (s := ⟨g1, _, _, _, _⟩) (up1 _ _ hz) ?_)))
  have hnew1 : g1.DictOf (strKind prog w) s.heap.objs.size [] := let ⟨o, es, ep, ho, r⟩ := hnew; ⟨o, es, ep, hk1 _ _ ho, r⟩
  refine wpAny_pure ⟨plainId_quiet plain_dict_loop _, ?_⟩
  refine codeAny_builtin entry_dict_loop ?_
  rw [Around.under_plainId plain_dict_loop _]
  show wpAny _ A.in1.in1 (pyNext (.ref (i + 4)) >>= _) _ _ _
  have hDlt : ∀ {b : Addr} {o : Obj}, s.heap.get? b = some o → b ≠ s.heap.objs.size := fun e => Nat.ne_of_lt (Heap.lt_size e)
  refine wpAny_bind (zip_end0 (l1 := l1) (i1 := i) (by simp [hh]) (Nat.ne_of_lt (Nat.lt_add_of_pos_right (by decide))) (Nat.ne_of_lt (Nat.lt_of_lt_of_le (allLt_get hlt _ h1) (Nat.le_add_right _ _))) (up1 _ _ hz) (up1 _ _ hTI) ⟨_, up1 _ _ hi1, rfl, rfl⟩ ⟨_, up1 _ _ hl, rfl, _, rfl⟩ fun g2 hk2 => ?_)
  show wpAny _ A.in1.in1 (Builtin.Dict.addKeywords s.heap.objs.size [] >>= _) _ _ _
  refine wpAny_bind (wpAny_pure (wpAny_pure ⟨rfl, ?_⟩))
  have hk : ∀ b o, b ≠ i + 4 → b ≠ i → s.heap.get? b = some o → g2.get? b = some o := fun b o c1 c2 e => hk2 b o c1 c2 (up1 b o e)
  obtain ⟨o, ho, hd⟩ := Heap.dictOf_iff.mp hnew1
  have hLlt : L < s.heap.objs.size := by
    obtain ⟨oL, _, _, hL, _⟩ := F.ns
    exact Heap.lt_size hL
  have ho2 : g2.get? s.heap.objs.size = some o := hk2 _ _ (Ne.symm (hDlt hz)) (Ne.symm (hDlt hi1)) ho
  refine k s.heap.objs.size o g2 _ ⟨F.ns.at' fun o' e => hk L o' hzL hiL e, fun b o' e => hk b o' (fun q => by rw [q, hz0] at e; cases e) (fun q => by rw [q, hi0] at e; cases e) (F.keep b o' e), F.above⟩ (fun p hp => ?_)
    (allLt_of fun p hp => Heap.lt_size (N p (List.mem_append_right _ hp)).1) (F.notModules (modules_low hbig)) hd
  rcases List.mem_cons.mp hp with rfl | hp
  · refine ⟨ho2, Nat.ne_of_gt hLlt, ?_⟩
    cases hq : h₀.get? s.heap.objs.size with
    | none => rfl
    | some o' => exact absurd (Heap.lt_size (F.keep _ _ hq)) (Nat.lt_irrefl _)
  · have z := N p (List.mem_append_right _ hp)
    have q := allLt_get hlt p hp
    exact ⟨hk _ _ (Nat.ne_of_lt (Nat.lt_of_lt_of_le q (Nat.le_add_right _ _))) (Nat.ne_of_lt q) z.1, z.2⟩
end
end Mine
end
section
namespace Mine
open PyProof.Rows.LCg PySem.Calls PySem.Spec PyProof.Rows.LCp
section
variable {prog : Program} {w : World} {A : Around} {E : Value → Shared → Prop} {s : Shared} {h₀ : Heap} {L : Addr} {m : Str → Option Value} {env : Env} {news : List (Addr × Obj)}
theorem end_tl {I C D : Addr} {oI oC oD : Obj} {S : List (Addr × Obj) → Prop} {rest : Value → List (Addr × Obj) → Prop} {y : Value} {h' : Heap} {tk : Nat} {tl tl' : List (Addr × Obj)} (F : Fr h₀ L h' m) (N : News h₀ L h' ((I, oI) :: (C, oC) :: (D, oD) :: (news ++ (tl' ++ tl)))) (off : Off3 I C D (news ++ tl))
    (hl : ∀ p ∈ tl', AllLt p.1 ((I, oI) :: (C, oC) :: (D, oD) :: (news ++ tl))) (hS : S (news ++ (tl' ++ tl))) (r : rest y (news ++ (tl' ++ tl))) : CompEnd h₀ L m s I oI C oC D oD S rest y { s with heap := h', toks := tk } := by
  refine CompEnd.intro F N (news ++ (tl' ++ tl)) (fun p hp => hp) (Off3.of fun p hp => ?_) hS r
  simp only [List.mem_append] at hp
  rcases hp with hp | hp | hp
  · exact off.mem _ (List.mem_append_left _ hp)
  · exact tl_off hl hp
  · exact off.mem _ (List.mem_append_right _ hp)
theorem lt_off {I C D : Addr} {oI oC oD : Obj} {tl tl' : List (Addr × Obj)} (hl : ∀ p ∈ tl', AllLt p.1 ((I, oI) :: (C, oC) :: (D, oD) :: (news ++ tl))) (ht : ∀ p ∈ tl, AllLt p.1 news) : ∀ p ∈ tl' ++ tl, AllLt p.1 news :=
  lt_app (fun p hp => allLt_suf (hl p hp) fun q hq => .tail _ (.tail _ (.tail _ (List.mem_append_left _ hq)))) ht
theorem restP_ind {elt : PySem.Expr} {x x₂ : Str} {scope : Scope} {cl : List (Str × Addr)} {S : List (Addr × Obj) → Prop} {Fin : List Value → List (Addr × Obj) → Prop} {its : Array Value} {Row : Nat → Value → Value → Prop} {Inv : Nat → List Value → List (Addr × Obj) → Prop}
    (hrow : ∀ i v, its[i]? = some v → ∃ t v₁ v₂ k, v = .ref t ∧ (t, tup #[v₁, v₂] k) ∈ news ∧ Row i v₁ v₂) (hS : ∀ tl, S (news ++ tl))
    (turn : ∀ i zs tl v₁ v₂ I oI C oC D m₂ h tk (Q' E' : Value → Shared → Prop), Row i v₁ v₂ → Inv i zs tl → NsObj oC m₂ → m₂ x = some v₁ → m₂ x₂ = some v₂ → Fr h₀ L h m → News h₀ L h ((I, oI) :: (C, oC) :: (D, lst zs) :: (news ++ tl)) →
      (∀ y tl' h' tk', Fr h₀ L h' m → News h₀ L h' ((I, oI) :: (C, oC) :: (D, lst zs) :: (news ++ (tl' ++ tl))) → (∀ p ∈ tl', AllLt p.1 ((I, oI) :: (C, oC) :: (D, lst zs) :: (news ++ tl))) → Inv (i + 1) (zs ++ [y]) (tl' ++ tl) → Q' y { s with heap := h', toks := tk' }) →
      wpAny (model prog w) A (eval elt (compEnvC scope cl C env)) Q' E' { s with heap := h, toks := tk })
    (fin : ∀ zs tl, Inv its.size zs tl → (∀ p ∈ tl, AllLt p.1 news) → Fin zs (news ++ tl)) :
    ∀ k i zs tl, i + k = its.size → Inv i zs tl → (∀ p ∈ tl, AllLt p.1 news) → CompRestP prog w A h₀ L m env elt x x₂ scope cl s S (fun i v => its[i]? = some v) Fin k i zs (news ++ tl)
  | 0, i, zs, tl, hk, hp, ht => fin zs tl ((show i = its.size by omega) ▸ hp) ht
  | k + 1, i, zs, tl, hk, hp, ht => fun v hv => by
    obtain ⟨t, v₁, v₂, kk, rfl, hm, hR⟩ := hrow i v hv
    refine ⟨t, tup #[v₁, v₂] kk, v₁, v₂, kk, rfl, List.mem_append_left _ hm, rfl, rfl, fun I oI C oC D m₂ h tk E' hC hx hx₂ F N off ne => ?_⟩
    refine turn i zs tl v₁ v₂ I oI C oC D m₂ h tk _ E' hR hp hC hx hx₂ F N fun y tl' h' tk' F' N' hl hI => ?_
    exact end_tl F' N' off hl (hS _) (restP_ind hrow hS turn fin k (i + 1) _ _ (by omega) hI (lt_off hl ht))
theorem restU_ind {elt : PySem.Expr} {x : Str} {scope : Scope} {cl : List (Str × Addr)} {S : List (Addr × Obj) → Prop} {Fin : List Value → List (Addr × Obj) → Prop} {P : Nat → Value → Prop} {n : Nat} {Inv : Nat → List Value → List (Addr × Obj) → Prop}
    (hS : ∀ tl, S (news ++ tl))
    (turn : ∀ i zs tl v I oI C oC D m₂ h tk (Q' E' : Value → Shared → Prop), P i v → i < n → Inv i zs tl → NsObj oC m₂ → m₂ x = some v → Fr h₀ L h m → News h₀ L h ((I, oI) :: (C, oC) :: (D, lst zs) :: (news ++ tl)) →
      (∀ y tl' h' tk', Fr h₀ L h' m → News h₀ L h' ((I, oI) :: (C, oC) :: (D, lst zs) :: (news ++ (tl' ++ tl))) → (∀ p ∈ tl', AllLt p.1 ((I, oI) :: (C, oC) :: (D, lst zs) :: (news ++ tl))) → Inv (i + 1) (zs ++ [y]) (tl' ++ tl) → Q' y { s with heap := h', toks := tk' }) →
      wpAny (model prog w) A (eval elt (compEnvC scope cl C env)) Q' E' { s with heap := h, toks := tk })
    (fin : ∀ zs tl, Inv n zs tl → (∀ p ∈ tl, AllLt p.1 news) → Fin zs (news ++ tl)) :
    ∀ k i zs tl, i + k = n → Inv i zs tl → (∀ p ∈ tl, AllLt p.1 news) → CompRest prog w A h₀ L m env elt x scope cl s S P Fin k i zs (news ++ tl)
  | 0, i, zs, tl, hk, hp, ht => fin zs tl ((show i = n by omega) ▸ hp) ht
  | k + 1, i, zs, tl, hk, hp, ht => fun v I oI C oC D m₂ h tk E' hP hC hx F N off ne => by
    refine turn i zs tl v I oI C oC D m₂ h tk _ E' hP (by omega) hp hC hx F N fun y tl' h' tk' F' N' hl hI => ?_
    exact end_tl F' N' off hl (hS _) (restU_ind hS turn fin k (i + 1) _ _ (by omega) hI (lt_off hl ht))
end
end Mine
end
section
namespace Mine
open PySem.Spec PySem.Calls
theorem pick_to (vs : List Value) {y : Int} {b : Nat} (hy : y = (b : Int)) (hb : b ≤ vs.length) : (slicePick vs.toArray none (some y) none).toList = vs.take b := by
  subst hy
  have e : sliceBounds none (some (b : Int)) none vs.toArray.size = (((0 : Nat) : Int), ((b : Nat) : Int), 1) := by
    simp only [sliceBounds, Option.getD_none, show (1 : Int) > 0 by decide, if_true, if_neg (show ¬ ((b : Int) < 0) by omega), List.size_toArray]
    congr 1
    congr 1
    omega
  rw [kmk_pick_nat _ e]
  simp
theorem pick_fr (vs : List Value) {y : Int} {b : Nat} (hy : y = (b : Int)) (hb : b ≤ vs.length) : (slicePick vs.toArray (some y) none none).toList = vs.drop b := by
  subst hy
  have e : sliceBounds (some (b : Int)) none none vs.toArray.size = (((b : Nat) : Int), ((vs.length : Nat) : Int), 1) := by
    simp only [sliceBounds, Option.getD_none, show (1 : Int) > 0 by decide, if_true, if_neg (show ¬ ((b : Int) < 0) by omega), List.size_toArray]
    congr 1
    omega
  rw [kmk_pick_nat _ e]
  simp only [List.toList_toArray]
  exact List.take_of_length_le (by rw [List.length_drop]; exact Nat.le_refl _)
theorem pick_last (vs : List Value) (x : Value) : (slicePick (vs ++ [x]).toArray none (some (-1)) none).toList = vs := by
  have e : sliceBounds none (some (-1)) none (vs ++ [x]).toArray.size = (((0 : Nat) : Int), ((vs.length : Nat) : Int), 1) := by
    simp only [sliceBounds, Option.getD_none, show (1 : Int) > 0 by decide, if_true, if_pos (show (-1 : Int) < 0 by decide), List.size_toArray, List.length_append, List.length_singleton]
    congr 1
    congr 1
    omega
  rw [kmk_pick_nat _ e]
  simp
section
variable {prog : Program} {w : World} {A : Around} {E : Value → Shared → Prop} {s : Shared} {h₀ : Heap} {L : Addr} {m : Str → Option Value} {news : List (Addr × Obj)} {value slice : PySem.Expr} {l : Addr} {u : Tok} {c : Nat}
theorem list_to {vs : List Value} {y : Int} {b : Nat} {Q : Value → Shared → Prop} (F : Fr h₀ L s.heap m) (N : News h₀ L s.heap news) (hm : (l, listOf vs.toArray c) ∈ news) (hy : y = (b : Int)) (hb : b ≤ vs.length) (hz : vs.length ≤ 99)
    (h : ∀ D h', Fr h₀ L h' m → News h₀ L h' ((D, listOf (vs.take b).toArray 0) :: news) → AllLt D news → Q (.ref D) { s with heap := h' })
    (hs : subscripted slice false (.ref l) (.ref s.heap.objs.size) = operate [.ref s.heap.objs.size, .ref l] (getItem (.ref l) (.ref s.heap.objs.size)) := by with_unfolding_all rfl)
    (hg : ∀ r, letTemporaryGo value (.ref l) r = pure () := by intro _; with_unfolding_all rfl) :
    wpAny (model prog w) A (subscriptTail value slice (.ref l) (.ref s.heap.objs.size)) Q E { s with heap := s.heap.push { cls := .type "slice", data := .fields #[.none, .int y u, .none] } } :=
  kmk_slice_lit F N (N.isList hm) .none (.int y u) (pick_to vs hy hb) (fun D h' F' N' l => h D h' F' N' (allLt_of l)) hs hg (by rw [List.size_toArray, sizeLine_eq]; omega)
theorem list_fr {vs : List Value} {y : Int} {b : Nat} {Q : Value → Shared → Prop} (F : Fr h₀ L s.heap m) (N : News h₀ L s.heap news) (hm : (l, listOf vs.toArray c) ∈ news) (hy : y = (b : Int)) (hb : b ≤ vs.length) (hz : vs.length ≤ 99)
    (h : ∀ D h', Fr h₀ L h' m → News h₀ L h' ((D, listOf (vs.drop b).toArray 0) :: news) → AllLt D news → Q (.ref D) { s with heap := h' })
    (hs : subscripted slice false (.ref l) (.ref s.heap.objs.size) = operate [.ref s.heap.objs.size, .ref l] (getItem (.ref l) (.ref s.heap.objs.size)) := by with_unfolding_all rfl)
    (hg : ∀ r, letTemporaryGo value (.ref l) r = pure () := by intro _; with_unfolding_all rfl) :
    wpAny (model prog w) A (subscriptTail value slice (.ref l) (.ref s.heap.objs.size)) Q E { s with heap := s.heap.push { cls := .type "slice", data := .fields #[.int y u, .none, .none] } } :=
  kmk_slice_lit F N (N.isList hm) (.int y u) .none (pick_fr vs hy hb) (fun D h' F' N' l => h D h' F' N' (allLt_of l)) hs hg (by rw [List.size_toArray, sizeLine_eq]; omega)
theorem list_but {vs : List Value} {x : Value} {Q : Value → Shared → Prop} (F : Fr h₀ L s.heap m) (N : News h₀ L s.heap news) (hm : (l, listOf (vs ++ [x]).toArray c) ∈ news) (hz : vs.length ≤ 98)
    (h : ∀ D h', Fr h₀ L h' m → News h₀ L h' ((D, listOf vs.toArray 0) :: news) → AllLt D news → Q (.ref D) { s with heap := h' })
    (hs : subscripted slice false (.ref l) (.ref s.heap.objs.size) = operate [.ref s.heap.objs.size, .ref l] (getItem (.ref l) (.ref s.heap.objs.size)) := by with_unfolding_all rfl)
    (hg : ∀ r, letTemporaryGo value (.ref l) r = pure () := by intro _; with_unfolding_all rfl) :
    wpAny (model prog w) A (subscriptTail value slice (.ref l) (.ref s.heap.objs.size)) Q E { s with heap := s.heap.push { cls := .type "slice", data := .fields #[.none, .int (-1) u, .none] } } :=
  kmk_slice_lit F N (N.isList hm) .none (.int (-1) u) (pick_last vs x) (fun D h' F' N' l => h D h' F' N' (allLt_of l)) hs hg (by rw [List.size_toArray, sizeLine_eq, List.length_append, List.length_singleton]; omega)
theorem list_last {vs : List Value} {x : Value} {Q : Value → Shared → Prop} (N : News h₀ L s.heap news) (hm : (l, listOf (vs ++ [x]).toArray c) ∈ news) (hz : vs.length ≤ 98) (h : Q x s)
    (hs : subscripted slice false (.ref l) (.int (-1) u) = operate [.ref l, .int (-1) u] (getItem (.ref l) (.int (-1) u)) := by with_unfolding_all rfl) :
    wpAny (model prog w) A (subscriptTail value slice (.ref l) (.int (-1) u)) Q E s := by
  have hl := N.isList hm
  have e : (-1 + (((vs ++ [x]).toArray.size : Nat) : Int)).toNat = vs.length := by
    rw [List.size_toArray, List.length_append, List.length_singleton]
    omega
  refine tail_any hl.typeIs slot_list_getitem.lookup (wpAny_getItem_list_neg hl (by decide) ?_ (by decide) ?_ h) hs
  · rw [List.size_toArray, List.length_append, List.length_singleton]
    omega
  · rw [e]
    simp
theorem list_hd {vs ws : List Value} {y : Int} {Q : Value → Shared → Prop} (F : Fr h₀ L s.heap m) (N : News h₀ L s.heap news) (hm : (l, listOf (vs ++ ws).toArray c) ∈ news) (hy : y = (vs.length : Int)) (hz : (vs ++ ws).length ≤ 99)
    (h : ∀ D h', Fr h₀ L h' m → News h₀ L h' ((D, listOf vs.toArray 0) :: news) → AllLt D news → Q (.ref D) { s with heap := h' })
    (hs : subscripted slice false (.ref l) (.ref s.heap.objs.size) = operate [.ref s.heap.objs.size, .ref l] (getItem (.ref l) (.ref s.heap.objs.size)) := by with_unfolding_all rfl)
    (hg : ∀ r, letTemporaryGo value (.ref l) r = pure () := by intro _; with_unfolding_all rfl) :
    wpAny (model prog w) A (subscriptTail value slice (.ref l) (.ref s.heap.objs.size)) Q E { s with heap := s.heap.push { cls := .type "slice", data := .fields #[.none, .int y u, .none] } } :=
  list_to (b := vs.length) F N hm hy (by rw [List.length_append]; omega) hz (fun D h' F' N' l => h D h' F' (by rwa [List.take_left] at N') l) hs hg
theorem list_tl {vs ws : List Value} {y : Int} {Q : Value → Shared → Prop} (F : Fr h₀ L s.heap m) (N : News h₀ L s.heap news) (hm : (l, listOf (vs ++ ws).toArray c) ∈ news) (hy : y = (vs.length : Int)) (hz : (vs ++ ws).length ≤ 99)
    (h : ∀ D h', Fr h₀ L h' m → News h₀ L h' ((D, listOf ws.toArray 0) :: news) → AllLt D news → Q (.ref D) { s with heap := h' })
    (hs : subscripted slice false (.ref l) (.ref s.heap.objs.size) = operate [.ref s.heap.objs.size, .ref l] (getItem (.ref l) (.ref s.heap.objs.size)) := by with_unfolding_all rfl)
    (hg : ∀ r, letTemporaryGo value (.ref l) r = pure () := by intro _; with_unfolding_all rfl) :
    wpAny (model prog w) A (subscriptTail value slice (.ref l) (.ref s.heap.objs.size)) Q E { s with heap := s.heap.push { cls := .type "slice", data := .fields #[.int y u, .none, .none] } } :=
  list_fr (b := vs.length) F N hm hy (by rw [List.length_append]; omega) hz (fun D h' F' N' l => h D h' F' (by rwa [List.drop_left] at N') l) hs hg
theorem tup_of {vs : List Value} {Q : Value → Shared → Prop} (F : Fr h₀ L s.heap m) (N : News h₀ L s.heap news) (hm : (l, listOf vs.toArray c) ∈ news) (hz : vs.length ≤ 99)
    (h : ∀ D h', Fr h₀ L h' m → News h₀ L h' ((D, tup vs.toArray 0) :: news) → AllLt D news → Q (.ref D) { s with heap := h' }) : wpAny (model prog w) A (call (.type "tuple") [.ref l]) Q E s :=
  kde_tupleOf F N (N.isList hm) (by rw [List.size_toArray]; omega) (List.toList_toArray) fun D h' F' N' l => h D h' F' N' (allLt_of l)
theorem add_ls {a b : Addr} {vs ws : List Value} {c1 c2 : Nat} {Q : Value → Shared → Prop} (F : Fr h₀ L s.heap m) (N : News h₀ L s.heap news) (h1 : (a, listOf vs.toArray c1) ∈ news) (h2 : (b, listOf ws.toArray c2) ∈ news) (hz : vs.length + ws.length ≤ 99)
    (h : ∀ D h', Fr h₀ L h' m → News h₀ L h' ((D, listOf (vs ++ ws).toArray 0) :: news) → AllLt D news → Q (.ref D) { s with heap := h' }) : wpAny (model prog w) A (binaryOp .Add (.ref a) (.ref b)) Q E s :=
  add_lists F N (N.isList h1) (N.isList h2) (fun h' F' N' => h _ h' F' N' (allLt_of fun p hp => Heap.lt_size (N p hp).1)) (by rw [sizeLine_eq]; omega)
end
end Mine
end
section
namespace Mine
open PySem.Spec PySem.Calls
section
variable {prog : Program} {w : World} {A : Around} {E : Value → Shared → Prop} {s : Shared}
theorem getItem_whole {t sl : Addr} {items : Array Value} {n : Nat} {y : Int} {u : Tok} {Q : Value → Shared → Prop} (ho : s.heap.get? t = some (tup items n)) (hs : s.heap.IsSliceOf sl .none (.int y u) .none)
    (hadj : Builtin.Slice.sliceAdjust none (some y) 1 (items.size : Int) = (0, ((items.size : Nat) : Int))) (h : Q (.ref t) s) : wpAny (model prog w) A (getItem (.ref t) (.ref sl)) Q E s := by
  have ht : IsTup s.heap t items := ⟨_, ho, rfl, _, rfl⟩
  obtain ⟨os, hos, hcs, hds⟩ := id hs
  have hTs : s.TypeIs (.ref sl) "slice" := ⟨os, hos, hcs⟩
  have hTt : s.TypeIs (.ref t) "tuple" := ht.typeIs
  unfold getItem
  try with_reducible refine wpAny_holding ?_
  first | refine wpAny_bind (wpAny_pure ?_) | skip
  refine wpAny_bind (wpAny_sequenceKey ht.typeIs (by decide) ?_)
  refine wpAny_bind (wpAny_callSpecial?_slot (name := Str.ofString "__getitem__") ht.typeIs slot_tuple_getitem
    (wpAny_call_entry slot_tuple_getitem ht.typeIs entry_tuple_getitem ?_ (args_tuple_getitem _ _)))
  show wpAny _ _ (Builtin.Tuple.tupleItemsOf (.ref t) >>= _) _ _ s
  refine wpAny_bind (tupleItemsOf_ ht ?_)
  refine wpAny_bind (wpAny_typeOf hTs ?_)
  rw [if_pos (by decide)]
  refine wpAny_bind (applied_upto hs hadj ?_)
  show wpAny _ _ (if ((0 : Int) == 0 && (1 : Int) == 1 && items.size == items.size) = true then _ else _) _ _ s
  rw [if_pos (by simp)]
  unfold Builtin.Tuple.tupleIsExact
  refine wpAny_bind (wpAny_bind (wpAny_typeOf hTt (wpAny_pure ?_)))
  rw [if_pos (by decide)]
  refine wpAny_bind (wpAny_rule ?_)
  first
    | exact wpAny_pure ⟨_, rfl, h⟩
    | exact wpAny_pure ⟨_, rfl, wpAny_pure h⟩
    | exact wpAny_bind (wpAny_pure ⟨_, rfl, h⟩)
    | exact wpAny_bind (wpAny_pure (wpAny_pure ⟨_, rfl, h⟩))
end
section
variable {prog : Program} {w : World} {A : Around} {E : Value → Shared → Prop} {s : Shared} {h₀ : Heap} {L : Addr} {m : Str → Option Value} {news : List (Addr × Obj)}
theorem tup_to {value slice : PySem.Expr} {t : Addr} {vs : List Value} {n b : Nat} {y : Int} {u : Tok} {Q : Value → Shared → Prop}
    (F : Fr h₀ L s.heap m) (N : News h₀ L s.heap news) (hm : (t, tup vs.toArray n) ∈ news) (hy : y = (b : Int)) (hb : b ≤ vs.length) (hz : vs.length ≤ 4)
    (h : ∀ D n' h', Fr h₀ L h' m → News h₀ L h' ((D, tup (vs.take b).toArray n') :: news) → (D = t ∨ AllLt D news) → Q (.ref D) { s with heap := h' })
    (hs : subscripted slice false (.ref t) (.ref s.heap.objs.size) = operate [.ref s.heap.objs.size, .ref t] (getItem (.ref t) (.ref s.heap.objs.size)) := by with_unfolding_all rfl)
    (hg : ∀ r, letTemporaryGo value (.ref t) r = pure () := by intro _; with_unfolding_all rfl) :
    wpAny (model prog w) A (subscriptTail value slice (.ref t) (.ref s.heap.objs.size)) Q E { s with heap := s.heap.push { cls := .type "slice", data := .fields #[.none, .int y u, .none] } } := by
  subst hy
  have hadj := adj_upto b vs.toArray.size hb
  by_cases hlt : b < vs.toArray.size
  · exact slice_upto F N hm hadj hlt hz (fun D h' F' N' l => h D 0 h' F' N' (.inr (allLt_of l))) hs hg
  · have e : b = vs.toArray.size := by rw [List.size_toArray] at hlt ⊢; omega
    have ht : IsTup s.heap t vs.toArray := ⟨_, N.get hm, rfl, _, rfl⟩
    have ht' : IsTup (s.heap.push { cls := .type "slice", data := .fields #[.none, .int (b : Int) u, .none] }) t vs.toArray := ht.keeps fun _ _ e => Heap.get?_push_of_some _ e
    subst e
    refine subscriptTail_ops (s := { s with heap := s.heap.push { cls := .type "slice", data := .fields #[.none, .int ((vs.toArray.size : Nat) : Int) u, .none] } }) ht'.typeIs slot_tuple_getitem.lookup
      (getItem_whole (Heap.get?_push_of_some _ (N.get hm)) (Heap.IsSliceOf.new ..) hadj ?_) hs hg
    have N1 : News h₀ L (s.heap.push { cls := .type "slice", data := .fields #[.none, .int ((vs.toArray.size : Nat) : Int) u, .none] }) news := N.grown fun _ _ e => Heap.get?_push_of_some _ e
    refine h t n _ (F.push _) (fun p hp => ?_) (.inl rfl)
    rcases List.mem_cons.mp hp with rfl | hp
    · rw [List.take_of_length_le (by rw [List.size_toArray]; exact Nat.le_refl _)]
      exact N1 _ hm
    · exact N1 p hp
end
end Mine
end
end
section
local macro_rules | `(tactic| k_all) => `(tactic| first | with_reducible assumption | exact Mine.tl_ne (by with_reducible assumption) (by k_mem) | exact Mine.allLt_ne (by simp only [*]) | exact Mine.allLt_neS (k := 1) (by simp only [*]) | exact Mine.allLt_neSS (by simp only [*]) | exact Mine.allLt_neSSS (by simp only [*]) | (refine List.forall_mem_append.mpr ⟨?_, ?_⟩ <;> k_all))
section
namespace Mine
open PySem.Spec PySem.Calls
noncomputable def RaiseEnd (base : Heap) (E : Value → Shared → Prop) (v : Value) (s₁ : Shared) : Prop := ∃ e dd t, v = .ref e ∧ base.StaysIn s₁.heap ∧ s₁.heap.get? e = some (excD 59 dd t) ∧ E (.ref e) s₁
theorem raise_at {prog : Program} {w : World} {A : Around} {E : Value → Shared → Prop} {s : Shared} {env : Env} {x : PySem.Expr} {pos : Pos} {Q : Flow → Shared → Prop} {base g : Heap} {A₀ : Around} {outer : List Env} (_B : Below A₀ base outer g) (XB : (Mine.kmk.heap_1 w.params).In base) (hh : A.handled = none)
    (h : wpAny (model prog w) A (eval x env) (RaiseEnd base E) E s) :
    wpAny (model prog w) A (exec (.Raise (some x) none pos) env) Q E s := by
  obtain ⟨nm, q', NN, bs, bm, hdct, sn, sub, ab, col, ddc, k0, k1, k2, k3, k5, newId, hC, hbase, -⟩ := kts_cls (C := 59) (T := "Exception") XB (by kts_isx)
  exact raiseD hbase hh (wpAny_mono h (fun v s₁ ⟨e, dd, t, h1, h2, h3, h4⟩ => ⟨e, dd, t, h1, h2 _ _ hC, h3, h4⟩) fun _ _ z => z)
theorem raise_end {A₀ : Around} {E : Value → Shared → Prop} {s : Shared} {base g : Heap} {outer : List Env} {L e dd t : Addr} {m : Str → Option Value} {l : List (Addr × Obj)} (N : News g L s.heap ((e, excD 59 dd t) :: l)) (F : Fr g L s.heap m) (B : Below A₀ base outer g) (h : E (.ref e) s) :
    RaiseEnd base E (.ref e) s := ⟨e, dd, t, rfl, fun b o q => F.keep b o (B.stays b o q), (N _ (.head _)).1, h⟩
theorem RsS.drop1 {base G : Heap} {l : List Env} {e : Addr} {cls : Value} {dd : Addr} {x y : Addr × Obj} {news : List (Addr × Obj)} {h : Heap} (R : RsS base G l e cls dd (x :: y :: news) h) : RsS base G l e cls dd (x :: news) h := by
  obtain ⟨B, a, b, c, d⟩ := R
  refine ⟨B, a, b, fun q hq => c q ?_, d⟩
  rcases List.mem_cons.mp hq with rfl | hq
  · exact .head _
  · exact .tail _ (.tail _ hq)
theorem nothing_ne {prog : Program} {w : World} {A : Around} {E : Value → Shared → Prop} {s : Shared} {g : Heap} {L x : Addr} {m : Str → Option Value} {news : List (Addr × Obj)} {Q : Value → Shared → Prop}
    (F : Fr g L s.heap m) (N : News g L s.heap news) (X : (Mine.kmk.heap_1 w.params).In g) (h : NN w news (.ref x)) (hu : A.units + 64 < cLine) (hq : Q (.bool false) s) : wpAny (model prog w) A (compareOp .Eq (.ref x) (.ref 98)) Q E s := by
  obtain ⟨d, hr, hs, he⟩ := h
  have X' := X.keeps F.keep
  obtain ⟨_, r1⟩ := hr _ X' fun p hp => (N p hp).1
  obtain ⟨_, r2⟩ := (Rd.nothing (w := w) (n := news)) _ X' fun p hp => (N p hp).1
  exact eq_dataH r1 r2 hs (by decide +kernel) hu (by rw [show PyData.eqv d (.tuple [.str (Str.ofString "nothing")]) = false from he]; exact hq)
theorem nothing_eq {prog : Program} {w : World} {A : Around} {E : Value → Shared → Prop} {s : Shared} {g : Heap} {L : Addr} {m : Str → Option Value} {Q : Value → Shared → Prop}
    (F : Fr g L s.heap m) (X : (Mine.kmk.heap_1 w.params).In g) (hu : A.units + 64 < cLine) (hq : Q (.bool true) s) : wpAny (model prog w) A (compareOp .Eq (.ref 98) (.ref 98)) Q E s := by
  have X' := X.keeps F.keep
  obtain ⟨_, r2⟩ := (Rd.nothing (w := w) (n := [])) _ X' fun p hp => nomatch hp
  exact eq_dataH r2 r2 (by decide +kernel) (by decide +kernel) hu (by rw [show PyData.eqv (.tuple [.str (Str.ofString "nothing")]) (.tuple [.str (Str.ofString "nothing")]) = true from by decide +kernel]; exact hq)
set_option maxRecDepth 100000 in
set_option maxHeartbeats 8000000 in
theorem inner_bad_int {prog : Program} {w : World} {p : Program} {loose : List Str} {mean : ExcName → Option Value} {mg mb : Str → Option Value} {dp un : Nat} {gd : Option (List Code)} {cn : Str} {cs : Scope} {a : Addr} {ccd : Value} {cl : List (Str × Addr)} {outer : List Env} {A₀ : Around} {base h₀ : Heap} {L : Addr} {m : Str → Option Value} {s : Shared} {Q E : Value → Shared → Prop} {news : List (Addr × Obj)}
    (B : Below A₀ base outer h₀) (F : Fr h₀ L s.heap m) (X : (Mine.kmk.heap_1 w.params).In h₀) (N : News h₀ L s.heap news) (T : Top p loose mean mg mb h₀) (hk : cs.kind = .function) (hg : s.gens = #[]) (hb : base.get? 0 = some (bnObj w.params)) (XB : (Mine.kmk.heap_1 w.params).In base)
    {i : Int} {ti : Tok} {st : Value}
    (ret : ∀ e dd od tk G h' tk', RsS base G (envX cn cs L a ccd cl :: outer) e (.ref 59) dd ((dd, od) :: news) h' → G.UpToSlots h' → lookIn "kind" od = some (some (.str "uninitialised" tk)) → Fr h₀ L G m → E (.ref e) { s with heap := h', toks := tk' }) :
    wpAny (model prog w) (ktrTop 305 16 gd cn cs L a ccd cl outer) (call (.ref 112) [.int i ti, st]) Q E s := by
  refine wpAny_call ?_
  k_dflt ktr_enter
  (repeat' (first | (k_unfold; (try dsimp only)) | (k_end; wrow_close) | (((with_reducible show wpAny _ _ (call (Value.ref 105) _) _ _ _); k_dflt (refine wpAny_call ?_; (refine' code_def ?k1 ?k2 ?k3 ?k4 ?k5 ?kA ?kF ?kK ?k6 ?k7 ?k8 ?k9 ?kB ?_ ?c2 ?c3 ?c4 ?c5; (case kA => exact rfl); (case kF => exact rfl); (case kK => first | exact rfl | assumption); (case k1 => k_asm); (case k2 => k_asm); (case k3 => k_asm); (case k4 => k_asm); (case k5 => k_asm); (case k6 => k_is); (case k7 => k_is); (case k8 => ktr_room); (case k9 => exact BindsTo.of_eq rfl); (case c5 => decide); (case kB => exact locs rfl); (case c2 => exact rfl); (case c3 => exact rfl); (case c4 => exact rfl); k_whole; intro g' L' h' FG' F' N' B' X' T'; (try dsimp only); (try k_lift B'); (try k_fold))))) | (((with_reducible show wpAny _ _ (call (Value.ref 59) _) _ _ _); k_dflt (refine top_le (dp' := 310) (un' := 30) (Nat.le_of_ble_eq_true rfl) (Nat.le_of_ble_eq_true rfl) (fault_K (dp := 0) (un := 0) (by k_asm) (by k_asm) (by k_asm) (by k_asm) (by k_asm) (by first | exact rfl | assumption) (by decide +kernel) (by decide +kernel) ?_)); intro e' dd' t' od' tke' h' tk' F' N' ne' hK')) | ((with_reducible show wpAny _ _ (leaving _ (Value.ref _)) _ _ _); (k_dflt (refine leave_raiseDS (by k_asm) (by rfl) (by rfl) (by k_asm) (by k_asm) (by with_reducible assumption) ⟨rfl, rfl⟩ rfl rfl ?_); intro h' R' U')) | ((with_reducible show RaiseEnd _ _ _ _); (k_dflt (refine raise_end (by k_asm) (by k_asm) (by k_asm) ?_))) | ((with_reducible show wpAny _ _ (exec (Stmt.Raise (some _) none _) _) _ _ _); (k_dflt (refine raise_at (by k_asm) (by assumption) (by rfl) ?_))) | ((with_reducible show wpAny _ _ (eval (PySem.Expr.Call (PySem.Expr.Name _ _) (_ :: _) [] _) _) _ _ _); (k_dflt (refine call_svs (by rfl) (by first | exact rfl | assumption) (by k_asm) (by k_asm) (by k_asm) (by k_is) (by k_is) (by rfl) ?_))) | ((with_reducible show wpAny _ _ (execs (_ :: _) _) _ _ _); ((with_reducible refine Mine.gen_tok ?_); intro tk; (with_reducible refine wpAny_execs_cons ?_); (try dsimp only))) | walk1 | (dsimp only; walk1) | (leave1; walk_say "STEP leave1"; try dsimp only) | fail "no step"))
  exact ret _ _ _ _ _ _ _ (by first | with_reducible assumption | exact RsS.drop1 (by with_reducible assumption)) (by with_reducible assumption) (by with_reducible assumption) (by k_asm)
set_option maxRecDepth 100000 in
set_option maxHeartbeats 8000000 in
theorem inner_bad_bool {prog : Program} {w : World} {p : Program} {loose : List Str} {mean : ExcName → Option Value} {mg mb : Str → Option Value} {dp un : Nat} {gd : Option (List Code)} {cn : Str} {cs : Scope} {a : Addr} {ccd : Value} {cl : List (Str × Addr)} {outer : List Env} {A₀ : Around} {base h₀ : Heap} {L : Addr} {m : Str → Option Value} {s : Shared} {Q E : Value → Shared → Prop} {news : List (Addr × Obj)}
    (B : Below A₀ base outer h₀) (F : Fr h₀ L s.heap m) (X : (Mine.kmk.heap_1 w.params).In h₀) (N : News h₀ L s.heap news) (T : Top p loose mean mg mb h₀) (hk : cs.kind = .function) (hg : s.gens = #[]) (hb : base.get? 0 = some (bnObj w.params)) (XB : (Mine.kmk.heap_1 w.params).In base)
    {b : Bool} {st : Value}
    (ret : ∀ e dd od tk G h' tk', RsS base G (envX cn cs L a ccd cl :: outer) e (.ref 59) dd ((dd, od) :: news) h' → G.UpToSlots h' → lookIn "kind" od = some (some (.str "uninitialised" tk)) → Fr h₀ L G m → E (.ref e) { s with heap := h', toks := tk' }) :
    wpAny (model prog w) (ktrTop 305 16 gd cn cs L a ccd cl outer) (call (.ref 112) [.bool b, st]) Q E s := by
  refine wpAny_call ?_
  k_dflt ktr_enter
  (repeat' (first | (k_unfold; (try dsimp only)) | (k_end; wrow_close) | (((with_reducible show wpAny _ _ (call (Value.ref 105) _) _ _ _); k_dflt (refine wpAny_call ?_; (refine' code_def ?k1 ?k2 ?k3 ?k4 ?k5 ?kA ?kF ?kK ?k6 ?k7 ?k8 ?k9 ?kB ?_ ?c2 ?c3 ?c4 ?c5; (case kA => exact rfl); (case kF => exact rfl); (case kK => first | exact rfl | assumption); (case k1 => k_asm); (case k2 => k_asm); (case k3 => k_asm); (case k4 => k_asm); (case k5 => k_asm); (case k6 => k_is); (case k7 => k_is); (case k8 => ktr_room); (case k9 => exact BindsTo.of_eq rfl); (case c5 => decide); (case kB => exact locs rfl); (case c2 => exact rfl); (case c3 => exact rfl); (case c4 => exact rfl); k_whole; intro g' L' h' FG' F' N' B' X' T'; (try dsimp only); (try k_lift B'); (try k_fold))))) | (((with_reducible show wpAny _ _ (call (Value.ref 59) _) _ _ _); k_dflt (refine top_le (dp' := 310) (un' := 30) (Nat.le_of_ble_eq_true rfl) (Nat.le_of_ble_eq_true rfl) (fault_K (dp := 0) (un := 0) (by k_asm) (by k_asm) (by k_asm) (by k_asm) (by k_asm) (by first | exact rfl | assumption) (by decide +kernel) (by decide +kernel) ?_)); intro e' dd' t' od' tke' h' tk' F' N' ne' hK')) | ((with_reducible show wpAny _ _ (leaving _ (Value.ref _)) _ _ _); (k_dflt (refine leave_raiseDS (by k_asm) (by rfl) (by rfl) (by k_asm) (by k_asm) (by with_reducible assumption) ⟨rfl, rfl⟩ rfl rfl ?_); intro h' R' U')) | ((with_reducible show RaiseEnd _ _ _ _); (k_dflt (refine raise_end (by k_asm) (by k_asm) (by k_asm) ?_))) | ((with_reducible show wpAny _ _ (exec (Stmt.Raise (some _) none _) _) _ _ _); (k_dflt (refine raise_at (by k_asm) (by assumption) (by rfl) ?_))) | ((with_reducible show wpAny _ _ (eval (PySem.Expr.Call (PySem.Expr.Name _ _) (_ :: _) [] _) _) _ _ _); (k_dflt (refine call_svs (by rfl) (by first | exact rfl | assumption) (by k_asm) (by k_asm) (by k_asm) (by k_is) (by k_is) (by rfl) ?_))) | ((with_reducible show wpAny _ _ (execs (_ :: _) _) _ _ _); ((with_reducible refine Mine.gen_tok ?_); intro tk; (with_reducible refine wpAny_execs_cons ?_); (try dsimp only))) | walk1 | (dsimp only; walk1) | (leave1; walk_say "STEP leave1"; try dsimp only) | fail "no step"))
  exact ret _ _ _ _ _ _ _ (by first | with_reducible assumption | exact RsS.drop1 (by with_reducible assumption)) (by with_reducible assumption) (by with_reducible assumption) (by k_asm)
set_option maxRecDepth 100000 in
set_option maxHeartbeats 8000000 in
theorem inner_bad_nothing {prog : Program} {w : World} {p : Program} {loose : List Str} {mean : ExcName → Option Value} {mg mb : Str → Option Value} {dp un : Nat} {gd : Option (List Code)} {cn : Str} {cs : Scope} {a : Addr} {ccd : Value} {cl : List (Str × Addr)} {outer : List Env} {A₀ : Around} {base h₀ : Heap} {L : Addr} {m : Str → Option Value} {s : Shared} {Q E : Value → Shared → Prop} {news : List (Addr × Obj)}
    (B : Below A₀ base outer h₀) (F : Fr h₀ L s.heap m) (X : (Mine.kmk.heap_1 w.params).In h₀) (N : News h₀ L s.heap news) (T : Top p loose mean mg mb h₀) (hk : cs.kind = .function) (hg : s.gens = #[]) (hb : base.get? 0 = some (bnObj w.params)) (XB : (Mine.kmk.heap_1 w.params).In base)
    {st : Value}
    (ret : ∀ e dd od tk G h' tk', RsS base G (envX cn cs L a ccd cl :: outer) e (.ref 59) dd ((dd, od) :: news) h' → G.UpToSlots h' → lookIn "kind" od = some (some (.str "uninitialised" tk)) → Fr h₀ L G m → E (.ref e) { s with heap := h', toks := tk' }) :
    wpAny (model prog w) (ktrTop 305 16 gd cn cs L a ccd cl outer) (call (.ref 112) [.ref 98, st]) Q E s := by
  refine wpAny_call ?_
  k_dflt ktr_enter
  (repeat' (first | (k_unfold; (try dsimp only)) | (k_end; wrow_close) | ((with_reducible show wpAny _ _ (compareOp CmpOp.Eq (Value.ref _) (Value.ref _)) _ _ _); (k_dflt (first | refine nothing_eq (by k_asm) (by k_asm) (by ktr_units) ?_ | refine nothing_ne (by k_asm) (by k_asm) (by k_asm) (by with_reducible assumption) (by ktr_units) ?_))) | (((with_reducible show wpAny _ _ (call (Value.ref 105) _) _ _ _); k_dflt (refine wpAny_call ?_; (refine' code_def ?k1 ?k2 ?k3 ?k4 ?k5 ?kA ?kF ?kK ?k6 ?k7 ?k8 ?k9 ?kB ?_ ?c2 ?c3 ?c4 ?c5; (case kA => exact rfl); (case kF => exact rfl); (case kK => first | exact rfl | assumption); (case k1 => k_asm); (case k2 => k_asm); (case k3 => k_asm); (case k4 => k_asm); (case k5 => k_asm); (case k6 => k_is); (case k7 => k_is); (case k8 => ktr_room); (case k9 => exact BindsTo.of_eq rfl); (case c5 => decide); (case kB => exact locs rfl); (case c2 => exact rfl); (case c3 => exact rfl); (case c4 => exact rfl); k_whole; intro g' L' h' FG' F' N' B' X' T'; (try dsimp only); (try k_lift B'); (try k_fold))))) | (((with_reducible show wpAny _ _ (call (Value.ref 59) _) _ _ _); k_dflt (refine top_le (dp' := 310) (un' := 30) (Nat.le_of_ble_eq_true rfl) (Nat.le_of_ble_eq_true rfl) (fault_K (dp := 0) (un := 0) (by k_asm) (by k_asm) (by k_asm) (by k_asm) (by k_asm) (by first | exact rfl | assumption) (by decide +kernel) (by decide +kernel) ?_)); intro e' dd' t' od' tke' h' tk' F' N' ne' hK')) | ((with_reducible show wpAny _ _ (leaving _ (Value.ref _)) _ _ _); (k_dflt (refine leave_raiseDS (by k_asm) (by rfl) (by rfl) (by k_asm) (by k_asm) (by with_reducible assumption) ⟨rfl, rfl⟩ rfl rfl ?_); intro h' R' U')) | ((with_reducible show RaiseEnd _ _ _ _); (k_dflt (refine raise_end (by k_asm) (by k_asm) (by k_asm) ?_))) | ((with_reducible show wpAny _ _ (exec (Stmt.Raise (some _) none _) _) _ _ _); (k_dflt (refine raise_at (by k_asm) (by assumption) (by rfl) ?_))) | ((with_reducible show wpAny _ _ (eval (PySem.Expr.Call (PySem.Expr.Name _ _) (_ :: _) [] _) _) _ _ _); (k_dflt (refine call_svs (by rfl) (by first | exact rfl | assumption) (by k_asm) (by k_asm) (by k_asm) (by k_is) (by k_is) (by rfl) ?_))) | ((with_reducible show wpAny _ _ (execs (_ :: _) _) _ _ _); ((with_reducible refine Mine.gen_tok ?_); intro tk; (with_reducible refine wpAny_execs_cons ?_); (try dsimp only))) | walk1 | (dsimp only; walk1) | (leave1; walk_say "STEP leave1"; try dsimp only) | fail "no step"))
  exact ret _ _ _ _ _ _ _ (by first | with_reducible assumption | exact RsS.drop1 (by with_reducible assumption)) (by with_reducible assumption) (by with_reducible assumption) (by k_asm)
set_option maxRecDepth 100000 in
set_option maxHeartbeats 8000000 in
theorem inner_bad_ref {prog : Program} {w : World} {p : Program} {loose : List Str} {mean : ExcName → Option Value} {mg mb : Str → Option Value} {dp un : Nat} {gd : Option (List Code)} {cn : Str} {cs : Scope} {a : Addr} {ccd : Value} {cl : List (Str × Addr)} {outer : List Env} {A₀ : Around} {base h₀ : Heap} {L : Addr} {m : Str → Option Value} {s : Shared} {Q E : Value → Shared → Prop} {news : List (Addr × Obj)}
    (B : Below A₀ base outer h₀) (F : Fr h₀ L s.heap m) (X : (Mine.kmk.heap_1 w.params).In h₀) (N : News h₀ L s.heap news) (T : Top p loose mean mg mb h₀) (hk : cs.kind = .function) (hg : s.gens = #[]) (hb : base.get? 0 = some (bnObj w.params)) (XB : (Mine.kmk.heap_1 w.params).In base)
    {x : Addr} {k : Nat} {t : Tok} {y st : Value} (hm : (x, tup #[.str "ref" t, y] k) ∈ news) (hnn : NN w news (.ref x))
    (ret : ∀ e dd od tk G h' tk', RsS base G (envX cn cs L a ccd cl :: outer) e (.ref 59) dd ((dd, od) :: news) h' → G.UpToSlots h' → lookIn "kind" od = some (some (.str "bounds" tk)) → Fr h₀ L G m → E (.ref e) { s with heap := h', toks := tk' }) :
    wpAny (model prog w) (ktrTop 305 16 gd cn cs L a ccd cl outer) (call (.ref 112) [.ref x, st]) Q E s := by
  refine wpAny_call ?_
  k_dflt ktr_enter
  (repeat' (first | (k_unfold; (try dsimp only)) | (k_end; wrow_close) | ((with_reducible show wpAny _ _ (compareOp CmpOp.Eq (Value.ref _) (Value.ref _)) _ _ _); (k_dflt (first | refine nothing_eq (by k_asm) (by k_asm) (by ktr_units) ?_ | refine nothing_ne (by k_asm) (by k_asm) (by k_asm) (by with_reducible assumption) (by ktr_units) ?_))) | (((with_reducible show wpAny _ _ (call (Value.ref 105) _) _ _ _); k_dflt (refine wpAny_call ?_; (refine' code_def ?k1 ?k2 ?k3 ?k4 ?k5 ?kA ?kF ?kK ?k6 ?k7 ?k8 ?k9 ?kB ?_ ?c2 ?c3 ?c4 ?c5; (case kA => exact rfl); (case kF => exact rfl); (case kK => first | exact rfl | assumption); (case k1 => k_asm); (case k2 => k_asm); (case k3 => k_asm); (case k4 => k_asm); (case k5 => k_asm); (case k6 => k_is); (case k7 => k_is); (case k8 => ktr_room); (case k9 => exact BindsTo.of_eq rfl); (case c5 => decide); (case kB => exact locs rfl); (case c2 => exact rfl); (case c3 => exact rfl); (case c4 => exact rfl); k_whole; intro g' L' h' FG' F' N' B' X' T'; (try dsimp only); (try k_lift B'); (try k_fold))))) | (((with_reducible show wpAny _ _ (call (Value.ref 59) _) _ _ _); k_dflt (refine top_le (dp' := 310) (un' := 30) (Nat.le_of_ble_eq_true rfl) (Nat.le_of_ble_eq_true rfl) (fault_K (dp := 0) (un := 0) (by k_asm) (by k_asm) (by k_asm) (by k_asm) (by k_asm) (by first | exact rfl | assumption) (by decide +kernel) (by decide +kernel) ?_)); intro e' dd' t' od' tke' h' tk' F' N' ne' hK')) | ((with_reducible show wpAny _ _ (leaving _ (Value.ref _)) _ _ _); (k_dflt (refine leave_raiseDS (by k_asm) (by rfl) (by rfl) (by k_asm) (by k_asm) (by with_reducible assumption) ⟨rfl, rfl⟩ rfl rfl ?_); intro h' R' U')) | ((with_reducible show RaiseEnd _ _ _ _); (k_dflt (refine raise_end (by k_asm) (by k_asm) (by k_asm) ?_))) | ((with_reducible show wpAny _ _ (exec (Stmt.Raise (some _) none _) _) _ _ _); (k_dflt (refine raise_at (by k_asm) (by assumption) (by rfl) ?_))) | ((with_reducible show wpAny _ _ (eval (PySem.Expr.Call (PySem.Expr.Name _ _) (_ :: _) [] _) _) _ _ _); (k_dflt (refine call_svs (by rfl) (by first | exact rfl | assumption) (by k_asm) (by k_asm) (by k_asm) (by k_is) (by k_is) (by rfl) ?_))) | ((with_reducible show wpAny _ _ (eval (PySem.Expr.Subscript _ _ _) _) _ _ _); (k_dflt (refine sub_sv (by rfl) (by first | exact rfl | assumption) (by k_asm) (by rfl) (by rfl) ?_))) | ((with_reducible show wpAny _ _ (PySem.isTrue (PySem.Expr.Compare _ [_] [_] _) _ _) _ _ _); (k_dflt (first | refine isTrue_sv (by rfl) (by first | exact rfl | assumption) (by k_asm) (by rfl) (by rfl) ?_ | refine isTrue_sub (by rfl) (by first | exact rfl | assumption) (by k_asm) (by rfl) (by rfl) ?_); (try dsimp only))) | ((with_reducible show wpAny _ _ (eval (PySem.Expr.Tuple _ _ _) _) _ _ _); (k_dflt (refine tuple_svs (by rfl) (by first | exact rfl | assumption) (by k_asm) (by k_asm) (by rfl) (by size_fits) ?_); intro Dw7 hw7 ow7 Fw7 Nw7 lw7)) | ((with_reducible show wpAny _ _ (execs [] _) _ _ _); ((with_reducible refine Mine.gen_tok ?_); intro tk; (with_reducible refine wpAny_execs_nil ?_); (try dsimp only))) | ((with_reducible show wpAny _ _ (execs (_ :: _) _) _ _ _); ((with_reducible refine Mine.gen_tok ?_); intro tk; (with_reducible refine wpAny_execs_cons ?_); (try dsimp only))) | walk1 | (dsimp only; walk1) | (leave1; walk_say "STEP leave1"; try dsimp only) | fail "no step"))
  exact ret _ _ _ _ _ _ _ (by first | with_reducible assumption | exact RsS.drop1 (by with_reducible assumption)) (by with_reducible assumption) (by with_reducible assumption) (by k_asm)
set_option maxRecDepth 100000 in
set_option maxHeartbeats 8000000 in
theorem inner_bad_box {prog : Program} {w : World} {p : Program} {loose : List Str} {mean : ExcName → Option Value} {mg mb : Str → Option Value} {dp un : Nat} {gd : Option (List Code)} {cn : Str} {cs : Scope} {a : Addr} {ccd : Value} {cl : List (Str × Addr)} {outer : List Env} {A₀ : Around} {base h₀ : Heap} {L : Addr} {m : Str → Option Value} {s : Shared} {Q E : Value → Shared → Prop} {news : List (Addr × Obj)}
    (B : Below A₀ base outer h₀) (F : Fr h₀ L s.heap m) (X : (Mine.kmk.heap_1 w.params).In h₀) (N : News h₀ L s.heap news) (T : Top p loose mean mg mb h₀) (hk : cs.kind = .function) (hg : s.gens = #[]) (hb : base.get? 0 = some (bnObj w.params)) (XB : (Mine.kmk.heap_1 w.params).In base)
    {x : Addr} {k : Nat} {t ti : Tok} {y : Value} {i : Int} (hm : (x, tup #[.str "box" t, y] k) ∈ news) (hnn : NN w news (.ref x))
    (ret : ∀ e dd od tk G h' tk', RsS base G (envX cn cs L a ccd cl :: outer) e (.ref 59) dd ((dd, od) :: news) h' → G.UpToSlots h' → lookIn "kind" od = some (some (.str "bounds" tk)) → Fr h₀ L G m → E (.ref e) { s with heap := h', toks := tk' }) :
    wpAny (model prog w) (ktrTop 305 16 gd cn cs L a ccd cl outer) (call (.ref 112) [.ref x, .int i ti]) Q E s := by
  refine wpAny_call ?_
  k_dflt ktr_enter
  (repeat' (first | (k_unfold; (try dsimp only)) | (k_end; wrow_close) | ((with_reducible show wpAny _ _ (compareOp CmpOp.Eq (Value.ref _) (Value.ref _)) _ _ _); (k_dflt (first | refine nothing_eq (by k_asm) (by k_asm) (by ktr_units) ?_ | refine nothing_ne (by k_asm) (by k_asm) (by k_asm) (by with_reducible assumption) (by ktr_units) ?_))) | (((with_reducible show wpAny _ _ (call (Value.ref 105) _) _ _ _); k_dflt (refine wpAny_call ?_; (refine' code_def ?k1 ?k2 ?k3 ?k4 ?k5 ?kA ?kF ?kK ?k6 ?k7 ?k8 ?k9 ?kB ?_ ?c2 ?c3 ?c4 ?c5; (case kA => exact rfl); (case kF => exact rfl); (case kK => first | exact rfl | assumption); (case k1 => k_asm); (case k2 => k_asm); (case k3 => k_asm); (case k4 => k_asm); (case k5 => k_asm); (case k6 => k_is); (case k7 => k_is); (case k8 => ktr_room); (case k9 => exact BindsTo.of_eq rfl); (case c5 => decide); (case kB => exact locs rfl); (case c2 => exact rfl); (case c3 => exact rfl); (case c4 => exact rfl); k_whole; intro g' L' h' FG' F' N' B' X' T'; (try dsimp only); (try k_lift B'); (try k_fold))))) | (((with_reducible show wpAny _ _ (call (Value.ref 59) _) _ _ _); k_dflt (refine top_le (dp' := 310) (un' := 30) (Nat.le_of_ble_eq_true rfl) (Nat.le_of_ble_eq_true rfl) (fault_K (dp := 0) (un := 0) (by k_asm) (by k_asm) (by k_asm) (by k_asm) (by k_asm) (by first | exact rfl | assumption) (by decide +kernel) (by decide +kernel) ?_)); intro e' dd' t' od' tke' h' tk' F' N' ne' hK')) | ((with_reducible show wpAny _ _ (leaving _ (Value.ref _)) _ _ _); (k_dflt (refine leave_raiseDS (by k_asm) (by rfl) (by rfl) (by k_asm) (by k_asm) (by with_reducible assumption) ⟨rfl, rfl⟩ rfl rfl ?_); intro h' R' U')) | ((with_reducible show RaiseEnd _ _ _ _); (k_dflt (refine raise_end (by k_asm) (by k_asm) (by k_asm) ?_))) | ((with_reducible show wpAny _ _ (exec (Stmt.Raise (some _) none _) _) _ _ _); (k_dflt (refine raise_at (by k_asm) (by assumption) (by rfl) ?_))) | ((with_reducible show wpAny _ _ (eval (PySem.Expr.Call (PySem.Expr.Name _ _) (_ :: _) [] _) _) _ _ _); (k_dflt (refine call_svs (by rfl) (by first | exact rfl | assumption) (by k_asm) (by k_asm) (by k_asm) (by k_is) (by k_is) (by rfl) ?_))) | ((with_reducible show wpAny _ _ (eval (PySem.Expr.Subscript _ _ _) _) _ _ _); (k_dflt (refine sub_sv (by rfl) (by first | exact rfl | assumption) (by k_asm) (by rfl) (by rfl) ?_))) | ((with_reducible show wpAny _ _ (PySem.isTrue (PySem.Expr.Compare _ [_] [_] _) _ _) _ _ _); (k_dflt (first | refine isTrue_sv (by rfl) (by first | exact rfl | assumption) (by k_asm) (by rfl) (by rfl) ?_ | refine isTrue_sub (by rfl) (by first | exact rfl | assumption) (by k_asm) (by rfl) (by rfl) ?_); (try dsimp only))) | ((with_reducible show wpAny _ _ (eval (PySem.Expr.Tuple _ _ _) _) _ _ _); (k_dflt (refine tuple_svs (by rfl) (by first | exact rfl | assumption) (by k_asm) (by k_asm) (by rfl) (by size_fits) ?_); intro Dw7 hw7 ow7 Fw7 Nw7 lw7)) | ((with_reducible show wpAny _ _ (execs [] _) _ _ _); ((with_reducible refine Mine.gen_tok ?_); intro tk; (with_reducible refine wpAny_execs_nil ?_); (try dsimp only))) | ((with_reducible show wpAny _ _ (execs (_ :: _) _) _ _ _); ((with_reducible refine Mine.gen_tok ?_); intro tk; (with_reducible refine wpAny_execs_cons ?_); (try dsimp only))) | walk1 | (dsimp only; walk1) | (leave1; walk_say "STEP leave1"; try dsimp only) | fail "no step"))
  exact ret _ _ _ _ _ _ _ (by first | with_reducible assumption | exact RsS.drop1 (by with_reducible assumption)) (by with_reducible assumption) (by with_reducible assumption) (by k_asm)
set_option maxRecDepth 100000 in
set_option maxHeartbeats 8000000 in
theorem inner_bad_fldsS {prog : Program} {w : World} {p : Program} {loose : List Str} {mean : ExcName → Option Value} {mg mb : Str → Option Value} {dp un : Nat} {gd : Option (List Code)} {cn : Str} {cs : Scope} {a : Addr} {ccd : Value} {cl : List (Str × Addr)} {outer : List Env} {A₀ : Around} {base h₀ : Heap} {L : Addr} {m : Str → Option Value} {s : Shared} {Q E : Value → Shared → Prop} {news : List (Addr × Obj)}
    (B : Below A₀ base outer h₀) (F : Fr h₀ L s.heap m) (X : (Mine.kmk.heap_1 w.params).In h₀) (N : News h₀ L s.heap news) (T : Top p loose mean mg mb h₀) (hk : cs.kind = .function) (hg : s.gens = #[]) (hb : base.get? 0 = some (bnObj w.params)) (XB : (Mine.kmk.heap_1 w.params).In base)
    {x p : Addr} {k kp : Nat} {t ts ti ty : Tok} {y i : Int} {its : List Value} (hm : (x, tup #[.str "fields" t, .ref p] k) ∈ news) (hp : (p, tup its.toArray kp) ∈ news) (hl : its.length ≤ 3) (hnn : NN w news (.ref x))
    (ret : ∀ e dd od tk G h' tk', RsS base G (envX cn cs L a ccd cl :: outer) e (.ref 59) dd ((dd, od) :: news) h' → G.UpToSlots h' → lookIn "kind" od = some (some (.str "bounds" tk)) → Fr h₀ L G m → E (.ref e) { s with heap := h', toks := tk' }) :
    wpAny (model prog w) (ktrTop 305 16 gd cn cs L a ccd cl outer) (call (.ref 112) [.ref x, .str "*" ts]) Q E s := by
  refine wpAny_call ?_
  k_dflt ktr_enter
  (repeat' (first | (k_unfold; (try dsimp only)) | (k_end; wrow_close) | ((with_reducible show wpAny _ _ (compareOp CmpOp.Eq (Value.ref _) (Value.ref _)) _ _ _); (k_dflt (first | refine nothing_eq (by k_asm) (by k_asm) (by ktr_units) ?_ | refine nothing_ne (by k_asm) (by k_asm) (by k_asm) (by with_reducible assumption) (by ktr_units) ?_))) | (((with_reducible show wpAny _ _ (call (Value.ref 105) _) _ _ _); k_dflt (refine wpAny_call ?_; (refine' code_def ?k1 ?k2 ?k3 ?k4 ?k5 ?kA ?kF ?kK ?k6 ?k7 ?k8 ?k9 ?kB ?_ ?c2 ?c3 ?c4 ?c5; (case kA => exact rfl); (case kF => exact rfl); (case kK => first | exact rfl | assumption); (case k1 => k_asm); (case k2 => k_asm); (case k3 => k_asm); (case k4 => k_asm); (case k5 => k_asm); (case k6 => k_is); (case k7 => k_is); (case k8 => ktr_room); (case k9 => exact BindsTo.of_eq rfl); (case c5 => decide); (case kB => exact locs rfl); (case c2 => exact rfl); (case c3 => exact rfl); (case c4 => exact rfl); k_whole; intro g' L' h' FG' F' N' B' X' T'; (try dsimp only); (try k_lift B'); (try k_fold))))) | (((with_reducible show wpAny _ _ (call (Value.ref 59) _) _ _ _); k_dflt (refine top_le (dp' := 310) (un' := 30) (Nat.le_of_ble_eq_true rfl) (Nat.le_of_ble_eq_true rfl) (fault_K (dp := 0) (un := 0) (by k_asm) (by k_asm) (by k_asm) (by k_asm) (by k_asm) (by first | exact rfl | assumption) (by decide +kernel) (by decide +kernel) ?_)); intro e' dd' t' od' tke' h' tk' F' N' ne' hK')) | ((with_reducible show wpAny _ _ (leaving _ (Value.ref _)) _ _ _); (k_dflt (refine leave_raiseDS (by k_asm) (by rfl) (by rfl) (by k_asm) (by k_asm) (by with_reducible assumption) ⟨rfl, rfl⟩ rfl rfl ?_); intro h' R' U')) | ((with_reducible show RaiseEnd _ _ _ _); (k_dflt (refine raise_end (by k_asm) (by k_asm) (by k_asm) ?_))) | ((with_reducible show wpAny _ _ (exec (Stmt.Raise (some _) none _) _) _ _ _); (k_dflt (refine raise_at (by k_asm) (by assumption) (by rfl) ?_))) | ((with_reducible show wpAny _ _ (eval (PySem.Expr.Call (PySem.Expr.Name _ _) (_ :: _) [] _) _) _ _ _); (k_dflt (refine call_svs (by rfl) (by first | exact rfl | assumption) (by k_asm) (by k_asm) (by k_asm) (by k_is) (by k_is) (by rfl) ?_))) | ((with_reducible show wpAny _ _ (eval (PySem.Expr.Subscript _ _ _) _) _ _ _); (k_dflt (refine sub_sv (by rfl) (by first | exact rfl | assumption) (by k_asm) (by rfl) (by rfl) ?_))) | ((with_reducible show wpAny _ _ (PySem.isTrue (PySem.Expr.Compare _ [_] [_] _) _ _) _ _ _); (k_dflt (first | refine isTrue_sv (by rfl) (by first | exact rfl | assumption) (by k_asm) (by rfl) (by rfl) ?_ | refine isTrue_sub (by rfl) (by first | exact rfl | assumption) (by k_asm) (by rfl) (by rfl) ?_); (try dsimp only))) | ((with_reducible show wpAny _ _ (eval (PySem.Expr.Tuple _ _ _) _) _ _ _); (k_dflt (refine tuple_svs (by rfl) (by first | exact rfl | assumption) (by k_asm) (by k_asm) (by rfl) (by size_fits) ?_); intro Dw7 hw7 ow7 Fw7 Nw7 lw7)) | ((with_reducible show wpAny _ _ (execs [] _) _ _ _); ((with_reducible refine Mine.gen_tok ?_); intro tk; (with_reducible refine wpAny_execs_nil ?_); (try dsimp only))) | ((with_reducible show wpAny _ _ (execs (_ :: _) _) _ _ _); ((with_reducible refine Mine.gen_tok ?_); intro tk; (with_reducible refine wpAny_execs_cons ?_); (try dsimp only))) | walk1 | (dsimp only; walk1) | (leave1; walk_say "STEP leave1"; try dsimp only) | fail "no step"))
  exact ret _ _ _ _ _ _ _ (by first | with_reducible assumption | exact RsS.drop1 (by with_reducible assumption)) (by with_reducible assumption) (by with_reducible assumption) (by k_asm)
set_option maxRecDepth 100000 in
set_option maxHeartbeats 8000000 in
theorem inner_bad_fldsN {prog : Program} {w : World} {p : Program} {loose : List Str} {mean : ExcName → Option Value} {mg mb : Str → Option Value} {dp un : Nat} {gd : Option (List Code)} {cn : Str} {cs : Scope} {a : Addr} {ccd : Value} {cl : List (Str × Addr)} {outer : List Env} {A₀ : Around} {base h₀ : Heap} {L : Addr} {m : Str → Option Value} {s : Shared} {Q E : Value → Shared → Prop} {news : List (Addr × Obj)}
    (B : Below A₀ base outer h₀) (F : Fr h₀ L s.heap m) (X : (Mine.kmk.heap_1 w.params).In h₀) (N : News h₀ L s.heap news) (T : Top p loose mean mg mb h₀) (hk : cs.kind = .function) (hg : s.gens = #[]) (hb : base.get? 0 = some (bnObj w.params)) (XB : (Mine.kmk.heap_1 w.params).In base)
    {x p : Addr} {k kp : Nat} {t ti ty : Tok} {y i : Int} {its : List Value} (hm : (x, tup #[.str "fields" t, .ref p] k) ∈ news) (hp : (p, tup its.toArray kp) ∈ news) (hl : its.length ≤ 3) (hnn : NN w news (.ref x)) (hi : i < 0)
    (ret : ∀ e dd od tk G h' tk', RsS base G (envX cn cs L a ccd cl :: outer) e (.ref 59) dd ((dd, od) :: news) h' → G.UpToSlots h' → lookIn "kind" od = some (some (.str "bounds" tk)) → Fr h₀ L G m → E (.ref e) { s with heap := h', toks := tk' }) :
    wpAny (model prog w) (ktrTop 305 16 gd cn cs L a ccd cl outer) (call (.ref 112) [.ref x, .int i ti]) Q E s := by
  refine wpAny_call ?_
  k_dflt ktr_enter
  (repeat' (first | (k_unfold; (try dsimp only)) | (k_end; wrow_close) | ((with_reducible show wpAny _ _ (compareOp CmpOp.Eq (Value.ref _) (Value.ref _)) _ _ _); (k_dflt (first | refine nothing_eq (by k_asm) (by k_asm) (by ktr_units) ?_ | refine nothing_ne (by k_asm) (by k_asm) (by k_asm) (by with_reducible assumption) (by ktr_units) ?_))) | (((with_reducible show wpAny _ _ (call (Value.ref 105) _) _ _ _); k_dflt (refine wpAny_call ?_; (refine' code_def ?k1 ?k2 ?k3 ?k4 ?k5 ?kA ?kF ?kK ?k6 ?k7 ?k8 ?k9 ?kB ?_ ?c2 ?c3 ?c4 ?c5; (case kA => exact rfl); (case kF => exact rfl); (case kK => first | exact rfl | assumption); (case k1 => k_asm); (case k2 => k_asm); (case k3 => k_asm); (case k4 => k_asm); (case k5 => k_asm); (case k6 => k_is); (case k7 => k_is); (case k8 => ktr_room); (case k9 => exact BindsTo.of_eq rfl); (case c5 => decide); (case kB => exact locs rfl); (case c2 => exact rfl); (case c3 => exact rfl); (case c4 => exact rfl); k_whole; intro g' L' h' FG' F' N' B' X' T'; (try dsimp only); (try k_lift B'); (try k_fold))))) | (((with_reducible show wpAny _ _ (call (Value.ref 59) _) _ _ _); k_dflt (refine top_le (dp' := 310) (un' := 30) (Nat.le_of_ble_eq_true rfl) (Nat.le_of_ble_eq_true rfl) (fault_K (dp := 0) (un := 0) (by k_asm) (by k_asm) (by k_asm) (by k_asm) (by k_asm) (by first | exact rfl | assumption) (by decide +kernel) (by decide +kernel) ?_)); intro e' dd' t' od' tke' h' tk' F' N' ne' hK')) | ((with_reducible show wpAny _ _ (leaving _ (Value.ref _)) _ _ _); (k_dflt (refine leave_raiseDS (by k_asm) (by rfl) (by rfl) (by k_asm) (by k_asm) (by with_reducible assumption) ⟨rfl, rfl⟩ rfl rfl ?_); intro h' R' U')) | ((with_reducible show RaiseEnd _ _ _ _); (k_dflt (refine raise_end (by k_asm) (by k_asm) (by k_asm) ?_))) | ((with_reducible show wpAny _ _ (exec (Stmt.Raise (some _) none _) _) _ _ _); (k_dflt (refine raise_at (by k_asm) (by assumption) (by rfl) ?_))) | ((with_reducible show wpAny _ _ (eval (PySem.Expr.Call (PySem.Expr.Name _ _) (_ :: _) [] _) _) _ _ _); (k_dflt (refine call_svs (by rfl) (by first | exact rfl | assumption) (by k_asm) (by k_asm) (by k_asm) (by k_is) (by k_is) (by rfl) ?_))) | ((with_reducible show wpAny _ _ (eval (PySem.Expr.Subscript _ _ _) _) _ _ _); (k_dflt (refine sub_sv (by rfl) (by first | exact rfl | assumption) (by k_asm) (by rfl) (by rfl) ?_))) | ((with_reducible show wpAny _ _ (PySem.isTrue (PySem.Expr.Compare _ [_] [_] _) _ _) _ _ _); (k_dflt (first | refine isTrue_sv (by rfl) (by first | exact rfl | assumption) (by k_asm) (by rfl) (by rfl) ?_ | refine isTrue_sub (by rfl) (by first | exact rfl | assumption) (by k_asm) (by rfl) (by rfl) ?_); (try dsimp only))) | ((with_reducible show wpAny _ _ (eval (PySem.Expr.Tuple _ _ _) _) _ _ _); (k_dflt (refine tuple_svs (by rfl) (by first | exact rfl | assumption) (by k_asm) (by k_asm) (by rfl) (by size_fits) ?_); intro Dw7 hw7 ow7 Fw7 Nw7 lw7)) | ((with_reducible show wpAny _ _ (execs [] _) _ _ _); ((with_reducible refine Mine.gen_tok ?_); intro tk; (with_reducible refine wpAny_execs_nil ?_); (try dsimp only))) | ((with_reducible show wpAny _ _ (execs (_ :: _) _) _ _ _); ((with_reducible refine Mine.gen_tok ?_); intro tk; (with_reducible refine wpAny_execs_cons ?_); (try dsimp only))) | walk1 | (dsimp only; walk1) | (leave1; walk_say "STEP leave1"; try dsimp only) | fail "no step"))
  exact ret _ _ _ _ _ _ _ (by first | with_reducible assumption | exact RsS.drop1 (by with_reducible assumption)) (by with_reducible assumption) (by with_reducible assumption) (by k_asm)
set_option maxRecDepth 100000 in
set_option maxHeartbeats 8000000 in
theorem inner_bad_fldsP {prog : Program} {w : World} {p : Program} {loose : List Str} {mean : ExcName → Option Value} {mg mb : Str → Option Value} {dp un : Nat} {gd : Option (List Code)} {cn : Str} {cs : Scope} {a : Addr} {ccd : Value} {cl : List (Str × Addr)} {outer : List Env} {A₀ : Around} {base h₀ : Heap} {L : Addr} {m : Str → Option Value} {s : Shared} {Q E : Value → Shared → Prop} {news : List (Addr × Obj)}
    (B : Below A₀ base outer h₀) (F : Fr h₀ L s.heap m) (X : (Mine.kmk.heap_1 w.params).In h₀) (N : News h₀ L s.heap news) (T : Top p loose mean mg mb h₀) (hk : cs.kind = .function) (hg : s.gens = #[]) (hb : base.get? 0 = some (bnObj w.params)) (XB : (Mine.kmk.heap_1 w.params).In base)
    {x p : Addr} {k kp : Nat} {t ti ty : Tok} {y i : Int} {its : List Value} (hm : (x, tup #[.str "fields" t, .ref p] k) ∈ news) (hp : (p, tup its.toArray kp) ∈ news) (hl : its.length ≤ 3) (hnn : NN w news (.ref x)) (h0 : 0 ≤ i) (hi : its.length ≤ i)
    (ret : ∀ e dd od tk G h' tk', RsS base G (envX cn cs L a ccd cl :: outer) e (.ref 59) dd ((dd, od) :: news) h' → G.UpToSlots h' → lookIn "kind" od = some (some (.str "bounds" tk)) → Fr h₀ L G m → E (.ref e) { s with heap := h', toks := tk' }) :
    wpAny (model prog w) (ktrTop 305 16 gd cn cs L a ccd cl outer) (call (.ref 112) [.ref x, .int i ti]) Q E s := by
  refine wpAny_call ?_
  k_dflt ktr_enter
  (repeat' (first | (k_unfold; (try dsimp only)) | (k_end; wrow_close) | ((with_reducible show wpAny _ _ (compareOp CmpOp.Eq (Value.ref _) (Value.ref _)) _ _ _); (k_dflt (first | refine nothing_eq (by k_asm) (by k_asm) (by ktr_units) ?_ | refine nothing_ne (by k_asm) (by k_asm) (by k_asm) (by with_reducible assumption) (by ktr_units) ?_))) | (((with_reducible show wpAny _ _ (call (Value.ref 105) _) _ _ _); k_dflt (refine wpAny_call ?_; (refine' code_def ?k1 ?k2 ?k3 ?k4 ?k5 ?kA ?kF ?kK ?k6 ?k7 ?k8 ?k9 ?kB ?_ ?c2 ?c3 ?c4 ?c5; (case kA => exact rfl); (case kF => exact rfl); (case kK => first | exact rfl | assumption); (case k1 => k_asm); (case k2 => k_asm); (case k3 => k_asm); (case k4 => k_asm); (case k5 => k_asm); (case k6 => k_is); (case k7 => k_is); (case k8 => ktr_room); (case k9 => exact BindsTo.of_eq rfl); (case c5 => decide); (case kB => exact locs rfl); (case c2 => exact rfl); (case c3 => exact rfl); (case c4 => exact rfl); k_whole; intro g' L' h' FG' F' N' B' X' T'; (try dsimp only); (try k_lift B'); (try k_fold))))) | ((with_reducible show wpAny _ _ (call (Value.builtin "len") [_]) _ _ _); (k_dflt (refine len_tupL (by k_asm) (by first | with_reducible assumption | exact List.mem_cons_of_mem _ (by with_reducible assumption) | exact List.mem_cons_of_mem _ (List.mem_cons_of_mem _ (by with_reducible assumption)) | k_mem) (by with_reducible assumption) ?_))) | ((with_reducible show wpAny _ _ (subscriptTail (PySem.Expr.Name _ _) (PySem.Expr.UnaryOp _ _ _) (Value.ref _) (Value.int _ _)) _ _ _); (k_dflt (first | refine item_last2 (by k_asm) (by first | with_reducible assumption | exact List.mem_cons_of_mem _ (by with_reducible assumption) | exact List.mem_cons_of_mem _ (List.mem_cons_of_mem _ (by with_reducible assumption)) | k_mem) ?_ | refine item_last3 (by k_asm) (by first | with_reducible assumption | exact List.mem_cons_of_mem _ (by with_reducible assumption) | exact List.mem_cons_of_mem _ (List.mem_cons_of_mem _ (by with_reducible assumption)) | k_mem) ?_))) | (((with_reducible show wpAny _ _ (call (Value.ref 59) _) _ _ _); k_dflt (refine top_le (dp' := 310) (un' := 30) (Nat.le_of_ble_eq_true rfl) (Nat.le_of_ble_eq_true rfl) (fault_K (dp := 0) (un := 0) (by k_asm) (by k_asm) (by k_asm) (by k_asm) (by k_asm) (by first | exact rfl | assumption) (by decide +kernel) (by decide +kernel) ?_)); intro e' dd' t' od' tke' h' tk' F' N' ne' hK')) | ((with_reducible show wpAny _ _ (leaving _ (Value.ref _)) _ _ _); (k_dflt (refine leave_raiseDS (by k_asm) (by rfl) (by rfl) (by k_asm) (by k_asm) (by with_reducible assumption) ⟨rfl, rfl⟩ rfl rfl ?_); intro h' R' U')) | ((with_reducible show RaiseEnd _ _ _ _); (k_dflt (refine raise_end (by k_asm) (by k_asm) (by k_asm) ?_))) | ((with_reducible show wpAny _ _ (exec (Stmt.Raise (some _) none _) _) _ _ _); (k_dflt (refine raise_at (by k_asm) (by assumption) (by rfl) ?_))) | ((with_reducible show wpAny _ _ (eval (PySem.Expr.Call (PySem.Expr.Name _ _) (_ :: _) [] _) _) _ _ _); (k_dflt (refine call_svs (by rfl) (by first | exact rfl | assumption) (by k_asm) (by k_asm) (by k_asm) (by k_is) (by k_is) (by rfl) ?_))) | ((with_reducible show wpAny _ _ (eval (PySem.Expr.Subscript _ _ _) _) _ _ _); (k_dflt (refine sub_sv (by rfl) (by first | exact rfl | assumption) (by k_asm) (by rfl) (by rfl) ?_))) | ((with_reducible show wpAny _ _ (PySem.isTrue (PySem.Expr.Compare _ [_] [_] _) _ _) _ _ _); (k_dflt (first | refine isTrue_sv (by rfl) (by first | exact rfl | assumption) (by k_asm) (by rfl) (by rfl) ?_ | refine isTrue_sub (by rfl) (by first | exact rfl | assumption) (by k_asm) (by rfl) (by rfl) ?_); (try dsimp only))) | ((with_reducible show wpAny _ _ (eval (PySem.Expr.Tuple _ _ _) _) _ _ _); (k_dflt (refine tuple_svs (by rfl) (by first | exact rfl | assumption) (by k_asm) (by k_asm) (by rfl) (by size_fits) ?_); intro Dw7 hw7 ow7 Fw7 Nw7 lw7)) | ((with_reducible show wpAny _ _ (execs [] _) _ _ _); ((with_reducible refine Mine.gen_tok ?_); intro tk; (with_reducible refine wpAny_execs_nil ?_); (try dsimp only))) | ((with_reducible show wpAny _ _ (execs (_ :: _) _) _ _ _); ((with_reducible refine Mine.gen_tok ?_); intro tk; (with_reducible refine wpAny_execs_cons ?_); (try dsimp only))) | walk1 | (dsimp only; walk1) | (leave1; walk_say "STEP leave1"; try dsimp only) | fail "no step"))
  exact ret _ _ _ _ _ _ _ (by first | with_reducible assumption | exact RsS.drop1 (by with_reducible assumption)) (by with_reducible assumption) (by with_reducible assumption) (by k_asm)
set_option maxRecDepth 100000 in
set_option maxHeartbeats 8000000 in
theorem inner_bad_vrntS {prog : Program} {w : World} {p : Program} {loose : List Str} {mean : ExcName → Option Value} {mg mb : Str → Option Value} {dp un : Nat} {gd : Option (List Code)} {cn : Str} {cs : Scope} {a : Addr} {ccd : Value} {cl : List (Str × Addr)} {outer : List Env} {A₀ : Around} {base h₀ : Heap} {L : Addr} {m : Str → Option Value} {s : Shared} {Q E : Value → Shared → Prop} {news : List (Addr × Obj)}
    (B : Below A₀ base outer h₀) (F : Fr h₀ L s.heap m) (X : (Mine.kmk.heap_1 w.params).In h₀) (N : News h₀ L s.heap news) (T : Top p loose mean mg mb h₀) (hk : cs.kind = .function) (hg : s.gens = #[]) (hb : base.get? 0 = some (bnObj w.params)) (XB : (Mine.kmk.heap_1 w.params).In base)
    {x p : Addr} {k kp : Nat} {t ts ti ty : Tok} {y i : Int} {its : List Value} (hm : (x, tup #[.str "variant" t, .int y ty, .ref p] k) ∈ news) (hp : (p, tup its.toArray kp) ∈ news) (hl : its.length ≤ 3) (hnn : NN w news (.ref x))
    (ret : ∀ e dd od tk G h' tk', RsS base G (envX cn cs L a ccd cl :: outer) e (.ref 59) dd ((dd, od) :: news) h' → G.UpToSlots h' → lookIn "kind" od = some (some (.str "bounds" tk)) → Fr h₀ L G m → E (.ref e) { s with heap := h', toks := tk' }) :
    wpAny (model prog w) (ktrTop 305 16 gd cn cs L a ccd cl outer) (call (.ref 112) [.ref x, .str "*" ts]) Q E s := by
  refine wpAny_call ?_
  k_dflt ktr_enter
  (repeat' (first | (k_unfold; (try dsimp only)) | (k_end; wrow_close) | ((with_reducible show wpAny _ _ (compareOp CmpOp.Eq (Value.ref _) (Value.ref _)) _ _ _); (k_dflt (first | refine nothing_eq (by k_asm) (by k_asm) (by ktr_units) ?_ | refine nothing_ne (by k_asm) (by k_asm) (by k_asm) (by with_reducible assumption) (by ktr_units) ?_))) | (((with_reducible show wpAny _ _ (call (Value.ref 105) _) _ _ _); k_dflt (refine wpAny_call ?_; (refine' code_def ?k1 ?k2 ?k3 ?k4 ?k5 ?kA ?kF ?kK ?k6 ?k7 ?k8 ?k9 ?kB ?_ ?c2 ?c3 ?c4 ?c5; (case kA => exact rfl); (case kF => exact rfl); (case kK => first | exact rfl | assumption); (case k1 => k_asm); (case k2 => k_asm); (case k3 => k_asm); (case k4 => k_asm); (case k5 => k_asm); (case k6 => k_is); (case k7 => k_is); (case k8 => ktr_room); (case k9 => exact BindsTo.of_eq rfl); (case c5 => decide); (case kB => exact locs rfl); (case c2 => exact rfl); (case c3 => exact rfl); (case c4 => exact rfl); k_whole; intro g' L' h' FG' F' N' B' X' T'; (try dsimp only); (try k_lift B'); (try k_fold))))) | (((with_reducible show wpAny _ _ (call (Value.ref 59) _) _ _ _); k_dflt (refine top_le (dp' := 310) (un' := 30) (Nat.le_of_ble_eq_true rfl) (Nat.le_of_ble_eq_true rfl) (fault_K (dp := 0) (un := 0) (by k_asm) (by k_asm) (by k_asm) (by k_asm) (by k_asm) (by first | exact rfl | assumption) (by decide +kernel) (by decide +kernel) ?_)); intro e' dd' t' od' tke' h' tk' F' N' ne' hK')) | ((with_reducible show wpAny _ _ (leaving _ (Value.ref _)) _ _ _); (k_dflt (refine leave_raiseDS (by k_asm) (by rfl) (by rfl) (by k_asm) (by k_asm) (by with_reducible assumption) ⟨rfl, rfl⟩ rfl rfl ?_); intro h' R' U')) | ((with_reducible show RaiseEnd _ _ _ _); (k_dflt (refine raise_end (by k_asm) (by k_asm) (by k_asm) ?_))) | ((with_reducible show wpAny _ _ (exec (Stmt.Raise (some _) none _) _) _ _ _); (k_dflt (refine raise_at (by k_asm) (by assumption) (by rfl) ?_))) | ((with_reducible show wpAny _ _ (eval (PySem.Expr.Call (PySem.Expr.Name _ _) (_ :: _) [] _) _) _ _ _); (k_dflt (refine call_svs (by rfl) (by first | exact rfl | assumption) (by k_asm) (by k_asm) (by k_asm) (by k_is) (by k_is) (by rfl) ?_))) | ((with_reducible show wpAny _ _ (eval (PySem.Expr.Subscript _ _ _) _) _ _ _); (k_dflt (refine sub_sv (by rfl) (by first | exact rfl | assumption) (by k_asm) (by rfl) (by rfl) ?_))) | ((with_reducible show wpAny _ _ (PySem.isTrue (PySem.Expr.Compare _ [_] [_] _) _ _) _ _ _); (k_dflt (first | refine isTrue_sv (by rfl) (by first | exact rfl | assumption) (by k_asm) (by rfl) (by rfl) ?_ | refine isTrue_sub (by rfl) (by first | exact rfl | assumption) (by k_asm) (by rfl) (by rfl) ?_); (try dsimp only))) | ((with_reducible show wpAny _ _ (eval (PySem.Expr.Tuple _ _ _) _) _ _ _); (k_dflt (refine tuple_svs (by rfl) (by first | exact rfl | assumption) (by k_asm) (by k_asm) (by rfl) (by size_fits) ?_); intro Dw7 hw7 ow7 Fw7 Nw7 lw7)) | ((with_reducible show wpAny _ _ (execs [] _) _ _ _); ((with_reducible refine Mine.gen_tok ?_); intro tk; (with_reducible refine wpAny_execs_nil ?_); (try dsimp only))) | ((with_reducible show wpAny _ _ (execs (_ :: _) _) _ _ _); ((with_reducible refine Mine.gen_tok ?_); intro tk; (with_reducible refine wpAny_execs_cons ?_); (try dsimp only))) | walk1 | (dsimp only; walk1) | (leave1; walk_say "STEP leave1"; try dsimp only) | fail "no step"))
  exact ret _ _ _ _ _ _ _ (by first | with_reducible assumption | exact RsS.drop1 (by with_reducible assumption)) (by with_reducible assumption) (by with_reducible assumption) (by k_asm)
set_option maxRecDepth 100000 in
set_option maxHeartbeats 8000000 in
theorem inner_bad_vrntN {prog : Program} {w : World} {p : Program} {loose : List Str} {mean : ExcName → Option Value} {mg mb : Str → Option Value} {dp un : Nat} {gd : Option (List Code)} {cn : Str} {cs : Scope} {a : Addr} {ccd : Value} {cl : List (Str × Addr)} {outer : List Env} {A₀ : Around} {base h₀ : Heap} {L : Addr} {m : Str → Option Value} {s : Shared} {Q E : Value → Shared → Prop} {news : List (Addr × Obj)}
    (B : Below A₀ base outer h₀) (F : Fr h₀ L s.heap m) (X : (Mine.kmk.heap_1 w.params).In h₀) (N : News h₀ L s.heap news) (T : Top p loose mean mg mb h₀) (hk : cs.kind = .function) (hg : s.gens = #[]) (hb : base.get? 0 = some (bnObj w.params)) (XB : (Mine.kmk.heap_1 w.params).In base)
    {x p : Addr} {k kp : Nat} {t ti ty : Tok} {y i : Int} {its : List Value} (hm : (x, tup #[.str "variant" t, .int y ty, .ref p] k) ∈ news) (hp : (p, tup its.toArray kp) ∈ news) (hl : its.length ≤ 3) (hnn : NN w news (.ref x)) (hi : i < 0)
    (ret : ∀ e dd od tk G h' tk', RsS base G (envX cn cs L a ccd cl :: outer) e (.ref 59) dd ((dd, od) :: news) h' → G.UpToSlots h' → lookIn "kind" od = some (some (.str "bounds" tk)) → Fr h₀ L G m → E (.ref e) { s with heap := h', toks := tk' }) :
    wpAny (model prog w) (ktrTop 305 16 gd cn cs L a ccd cl outer) (call (.ref 112) [.ref x, .int i ti]) Q E s := by
  refine wpAny_call ?_
  k_dflt ktr_enter
  (repeat' (first | (k_unfold; (try dsimp only)) | (k_end; wrow_close) | ((with_reducible show wpAny _ _ (compareOp CmpOp.Eq (Value.ref _) (Value.ref _)) _ _ _); (k_dflt (first | refine nothing_eq (by k_asm) (by k_asm) (by ktr_units) ?_ | refine nothing_ne (by k_asm) (by k_asm) (by k_asm) (by with_reducible assumption) (by ktr_units) ?_))) | (((with_reducible show wpAny _ _ (call (Value.ref 105) _) _ _ _); k_dflt (refine wpAny_call ?_; (refine' code_def ?k1 ?k2 ?k3 ?k4 ?k5 ?kA ?kF ?kK ?k6 ?k7 ?k8 ?k9 ?kB ?_ ?c2 ?c3 ?c4 ?c5; (case kA => exact rfl); (case kF => exact rfl); (case kK => first | exact rfl | assumption); (case k1 => k_asm); (case k2 => k_asm); (case k3 => k_asm); (case k4 => k_asm); (case k5 => k_asm); (case k6 => k_is); (case k7 => k_is); (case k8 => ktr_room); (case k9 => exact BindsTo.of_eq rfl); (case c5 => decide); (case kB => exact locs rfl); (case c2 => exact rfl); (case c3 => exact rfl); (case c4 => exact rfl); k_whole; intro g' L' h' FG' F' N' B' X' T'; (try dsimp only); (try k_lift B'); (try k_fold))))) | (((with_reducible show wpAny _ _ (call (Value.ref 59) _) _ _ _); k_dflt (refine top_le (dp' := 310) (un' := 30) (Nat.le_of_ble_eq_true rfl) (Nat.le_of_ble_eq_true rfl) (fault_K (dp := 0) (un := 0) (by k_asm) (by k_asm) (by k_asm) (by k_asm) (by k_asm) (by first | exact rfl | assumption) (by decide +kernel) (by decide +kernel) ?_)); intro e' dd' t' od' tke' h' tk' F' N' ne' hK')) | ((with_reducible show wpAny _ _ (leaving _ (Value.ref _)) _ _ _); (k_dflt (refine leave_raiseDS (by k_asm) (by rfl) (by rfl) (by k_asm) (by k_asm) (by with_reducible assumption) ⟨rfl, rfl⟩ rfl rfl ?_); intro h' R' U')) | ((with_reducible show RaiseEnd _ _ _ _); (k_dflt (refine raise_end (by k_asm) (by k_asm) (by k_asm) ?_))) | ((with_reducible show wpAny _ _ (exec (Stmt.Raise (some _) none _) _) _ _ _); (k_dflt (refine raise_at (by k_asm) (by assumption) (by rfl) ?_))) | ((with_reducible show wpAny _ _ (eval (PySem.Expr.Call (PySem.Expr.Name _ _) (_ :: _) [] _) _) _ _ _); (k_dflt (refine call_svs (by rfl) (by first | exact rfl | assumption) (by k_asm) (by k_asm) (by k_asm) (by k_is) (by k_is) (by rfl) ?_))) | ((with_reducible show wpAny _ _ (eval (PySem.Expr.Subscript _ _ _) _) _ _ _); (k_dflt (refine sub_sv (by rfl) (by first | exact rfl | assumption) (by k_asm) (by rfl) (by rfl) ?_))) | ((with_reducible show wpAny _ _ (PySem.isTrue (PySem.Expr.Compare _ [_] [_] _) _ _) _ _ _); (k_dflt (first | refine isTrue_sv (by rfl) (by first | exact rfl | assumption) (by k_asm) (by rfl) (by rfl) ?_ | refine isTrue_sub (by rfl) (by first | exact rfl | assumption) (by k_asm) (by rfl) (by rfl) ?_); (try dsimp only))) | ((with_reducible show wpAny _ _ (eval (PySem.Expr.Tuple _ _ _) _) _ _ _); (k_dflt (refine tuple_svs (by rfl) (by first | exact rfl | assumption) (by k_asm) (by k_asm) (by rfl) (by size_fits) ?_); intro Dw7 hw7 ow7 Fw7 Nw7 lw7)) | ((with_reducible show wpAny _ _ (execs [] _) _ _ _); ((with_reducible refine Mine.gen_tok ?_); intro tk; (with_reducible refine wpAny_execs_nil ?_); (try dsimp only))) | ((with_reducible show wpAny _ _ (execs (_ :: _) _) _ _ _); ((with_reducible refine Mine.gen_tok ?_); intro tk; (with_reducible refine wpAny_execs_cons ?_); (try dsimp only))) | walk1 | (dsimp only; walk1) | (leave1; walk_say "STEP leave1"; try dsimp only) | fail "no step"))
  exact ret _ _ _ _ _ _ _ (by first | with_reducible assumption | exact RsS.drop1 (by with_reducible assumption)) (by with_reducible assumption) (by with_reducible assumption) (by k_asm)
set_option maxRecDepth 100000 in
set_option maxHeartbeats 8000000 in
theorem inner_bad_vrntP {prog : Program} {w : World} {p : Program} {loose : List Str} {mean : ExcName → Option Value} {mg mb : Str → Option Value} {dp un : Nat} {gd : Option (List Code)} {cn : Str} {cs : Scope} {a : Addr} {ccd : Value} {cl : List (Str × Addr)} {outer : List Env} {A₀ : Around} {base h₀ : Heap} {L : Addr} {m : Str → Option Value} {s : Shared} {Q E : Value → Shared → Prop} {news : List (Addr × Obj)}
    (B : Below A₀ base outer h₀) (F : Fr h₀ L s.heap m) (X : (Mine.kmk.heap_1 w.params).In h₀) (N : News h₀ L s.heap news) (T : Top p loose mean mg mb h₀) (hk : cs.kind = .function) (hg : s.gens = #[]) (hb : base.get? 0 = some (bnObj w.params)) (XB : (Mine.kmk.heap_1 w.params).In base)
    {x p : Addr} {k kp : Nat} {t ti ty : Tok} {y i : Int} {its : List Value} (hm : (x, tup #[.str "variant" t, .int y ty, .ref p] k) ∈ news) (hp : (p, tup its.toArray kp) ∈ news) (hl : its.length ≤ 3) (hnn : NN w news (.ref x)) (h0 : 0 ≤ i) (hi : its.length ≤ i)
    (ret : ∀ e dd od tk G h' tk', RsS base G (envX cn cs L a ccd cl :: outer) e (.ref 59) dd ((dd, od) :: news) h' → G.UpToSlots h' → lookIn "kind" od = some (some (.str "bounds" tk)) → Fr h₀ L G m → E (.ref e) { s with heap := h', toks := tk' }) :
    wpAny (model prog w) (ktrTop 305 16 gd cn cs L a ccd cl outer) (call (.ref 112) [.ref x, .int i ti]) Q E s := by
  refine wpAny_call ?_
  k_dflt ktr_enter
  (repeat' (first | (k_unfold; (try dsimp only)) | (k_end; wrow_close) | ((with_reducible show wpAny _ _ (compareOp CmpOp.Eq (Value.ref _) (Value.ref _)) _ _ _); (k_dflt (first | refine nothing_eq (by k_asm) (by k_asm) (by ktr_units) ?_ | refine nothing_ne (by k_asm) (by k_asm) (by k_asm) (by with_reducible assumption) (by ktr_units) ?_))) | (((with_reducible show wpAny _ _ (call (Value.ref 105) _) _ _ _); k_dflt (refine wpAny_call ?_; (refine' code_def ?k1 ?k2 ?k3 ?k4 ?k5 ?kA ?kF ?kK ?k6 ?k7 ?k8 ?k9 ?kB ?_ ?c2 ?c3 ?c4 ?c5; (case kA => exact rfl); (case kF => exact rfl); (case kK => first | exact rfl | assumption); (case k1 => k_asm); (case k2 => k_asm); (case k3 => k_asm); (case k4 => k_asm); (case k5 => k_asm); (case k6 => k_is); (case k7 => k_is); (case k8 => ktr_room); (case k9 => exact BindsTo.of_eq rfl); (case c5 => decide); (case kB => exact locs rfl); (case c2 => exact rfl); (case c3 => exact rfl); (case c4 => exact rfl); k_whole; intro g' L' h' FG' F' N' B' X' T'; (try dsimp only); (try k_lift B'); (try k_fold))))) | ((with_reducible show wpAny _ _ (call (Value.builtin "len") [_]) _ _ _); (k_dflt (refine len_tupL (by k_asm) (by first | with_reducible assumption | exact List.mem_cons_of_mem _ (by with_reducible assumption) | exact List.mem_cons_of_mem _ (List.mem_cons_of_mem _ (by with_reducible assumption)) | k_mem) (by with_reducible assumption) ?_))) | ((with_reducible show wpAny _ _ (subscriptTail (PySem.Expr.Name _ _) (PySem.Expr.UnaryOp _ _ _) (Value.ref _) (Value.int _ _)) _ _ _); (k_dflt (first | refine item_last2 (by k_asm) (by first | with_reducible assumption | exact List.mem_cons_of_mem _ (by with_reducible assumption) | exact List.mem_cons_of_mem _ (List.mem_cons_of_mem _ (by with_reducible assumption)) | k_mem) ?_ | refine item_last3 (by k_asm) (by first | with_reducible assumption | exact List.mem_cons_of_mem _ (by with_reducible assumption) | exact List.mem_cons_of_mem _ (List.mem_cons_of_mem _ (by with_reducible assumption)) | k_mem) ?_))) | (((with_reducible show wpAny _ _ (call (Value.ref 59) _) _ _ _); k_dflt (refine top_le (dp' := 310) (un' := 30) (Nat.le_of_ble_eq_true rfl) (Nat.le_of_ble_eq_true rfl) (fault_K (dp := 0) (un := 0) (by k_asm) (by k_asm) (by k_asm) (by k_asm) (by k_asm) (by first | exact rfl | assumption) (by decide +kernel) (by decide +kernel) ?_)); intro e' dd' t' od' tke' h' tk' F' N' ne' hK')) | ((with_reducible show wpAny _ _ (leaving _ (Value.ref _)) _ _ _); (k_dflt (refine leave_raiseDS (by k_asm) (by rfl) (by rfl) (by k_asm) (by k_asm) (by with_reducible assumption) ⟨rfl, rfl⟩ rfl rfl ?_); intro h' R' U')) | ((with_reducible show RaiseEnd _ _ _ _); (k_dflt (refine raise_end (by k_asm) (by k_asm) (by k_asm) ?_))) | ((with_reducible show wpAny _ _ (exec (Stmt.Raise (some _) none _) _) _ _ _); (k_dflt (refine raise_at (by k_asm) (by assumption) (by rfl) ?_))) | ((with_reducible show wpAny _ _ (eval (PySem.Expr.Call (PySem.Expr.Name _ _) (_ :: _) [] _) _) _ _ _); (k_dflt (refine call_svs (by rfl) (by first | exact rfl | assumption) (by k_asm) (by k_asm) (by k_asm) (by k_is) (by k_is) (by rfl) ?_))) | ((with_reducible show wpAny _ _ (eval (PySem.Expr.Subscript _ _ _) _) _ _ _); (k_dflt (refine sub_sv (by rfl) (by first | exact rfl | assumption) (by k_asm) (by rfl) (by rfl) ?_))) | ((with_reducible show wpAny _ _ (PySem.isTrue (PySem.Expr.Compare _ [_] [_] _) _ _) _ _ _); (k_dflt (first | refine isTrue_sv (by rfl) (by first | exact rfl | assumption) (by k_asm) (by rfl) (by rfl) ?_ | refine isTrue_sub (by rfl) (by first | exact rfl | assumption) (by k_asm) (by rfl) (by rfl) ?_); (try dsimp only))) | ((with_reducible show wpAny _ _ (eval (PySem.Expr.Tuple _ _ _) _) _ _ _); (k_dflt (refine tuple_svs (by rfl) (by first | exact rfl | assumption) (by k_asm) (by k_asm) (by rfl) (by size_fits) ?_); intro Dw7 hw7 ow7 Fw7 Nw7 lw7)) | ((with_reducible show wpAny _ _ (execs [] _) _ _ _); ((with_reducible refine Mine.gen_tok ?_); intro tk; (with_reducible refine wpAny_execs_nil ?_); (try dsimp only))) | ((with_reducible show wpAny _ _ (execs (_ :: _) _) _ _ _); ((with_reducible refine Mine.gen_tok ?_); intro tk; (with_reducible refine wpAny_execs_cons ?_); (try dsimp only))) | walk1 | (dsimp only; walk1) | (leave1; walk_say "STEP leave1"; try dsimp only) | fail "no step"))
  exact ret _ _ _ _ _ _ _ (by first | with_reducible assumption | exact RsS.drop1 (by with_reducible assumption)) (by with_reducible assumption) (by with_reducible assumption) (by k_asm)
set_option maxRecDepth 100000 in
set_option maxHeartbeats 8000000 in
theorem inner_ok_box {prog : Program} {w : World} {p : Program} {loose : List Str} {mean : ExcName → Option Value} {mg mb : Str → Option Value} {dp un : Nat} {gd : Option (List Code)} {cn : Str} {cs : Scope} {a : Addr} {ccd : Value} {cl : List (Str × Addr)} {outer : List Env} {A₀ : Around} {base h₀ : Heap} {L : Addr} {m : Str → Option Value} {s : Shared} {Q E : Value → Shared → Prop} {news : List (Addr × Obj)}
    (B : Below A₀ base outer h₀) (F : Fr h₀ L s.heap m) (X : (Mine.kmk.heap_1 w.params).In h₀) (N : News h₀ L s.heap news) (T : Top p loose mean mg mb h₀) (hk : cs.kind = .function)
    {x : Addr} {k : Nat} {t ts : Tok} {y : Value} (hm : (x, tup #[.str "box" t, y] k) ∈ news) (hnn : NN w news (.ref x)) (hdp : dp + 2 < recursionLimit) (hun : un + 80 < cLine)
    (ret : ∀ h' tk', Fr h₀ L h' m → News h₀ L h' news → Q y { s with heap := h', toks := tk' }) :
    wpAny (model prog w) (ktrTop dp un gd cn cs L a ccd cl outer) (call (.ref 112) [.ref x, .str "*" ts]) Q E s := by
  refine wpAny_call ?_
  k_dflt ktr_enter
  (repeat' (first | (k_unfold; (try dsimp only)) | (k_end; wrow_close) | ((with_reducible show wpAny _ _ (compareOp CmpOp.Eq (Value.ref _) (Value.ref _)) _ _ _); (k_dflt (first | refine nothing_eq (by k_asm) (by k_asm) (by ktr_units) ?_ | refine nothing_ne (by k_asm) (by k_asm) (by k_asm) (by with_reducible assumption) (by ktr_units) ?_))) | (((with_reducible show wpAny _ _ (call (Value.ref 105) _) _ _ _); k_dflt (refine wpAny_call ?_; (refine' code_def ?k1 ?k2 ?k3 ?k4 ?k5 ?kA ?kF ?kK ?k6 ?k7 ?k8 ?k9 ?kB ?_ ?c2 ?c3 ?c4 ?c5; (case kA => exact rfl); (case kF => exact rfl); (case kK => first | exact rfl | assumption); (case k1 => k_asm); (case k2 => k_asm); (case k3 => k_asm); (case k4 => k_asm); (case k5 => k_asm); (case k6 => k_is); (case k7 => k_is); (case k8 => ktr_room); (case k9 => exact BindsTo.of_eq rfl); (case c5 => decide); (case kB => exact locs rfl); (case c2 => exact rfl); (case c3 => exact rfl); (case c4 => exact rfl); k_whole; intro g' L' h' FG' F' N' B' X' T'; (try dsimp only); (try k_lift B'); (try k_fold))))) | ((with_reducible show wpAny _ _ (eval (PySem.Expr.Call (PySem.Expr.Name _ _) (_ :: _) [] _) _) _ _ _); (k_dflt (refine call_svs (by rfl) (by first | exact rfl | assumption) (by k_asm) (by k_asm) (by k_asm) (by k_is) (by k_is) (by rfl) ?_))) | ((with_reducible show wpAny _ _ (eval (PySem.Expr.Subscript _ _ _) _) _ _ _); (k_dflt (refine sub_sv (by rfl) (by first | exact rfl | assumption) (by k_asm) (by rfl) (by rfl) ?_))) | ((with_reducible show wpAny _ _ (PySem.isTrue (PySem.Expr.Compare _ [_] [_] _) _ _) _ _ _); (k_dflt (first | refine isTrue_sv (by rfl) (by first | exact rfl | assumption) (by k_asm) (by rfl) (by rfl) ?_ | refine isTrue_sub (by rfl) (by first | exact rfl | assumption) (by k_asm) (by rfl) (by rfl) ?_); (try dsimp only))) | ((with_reducible show wpAny _ _ (execs [] _) _ _ _); ((with_reducible refine Mine.gen_tok ?_); intro tk; (with_reducible refine wpAny_execs_nil ?_); (try dsimp only))) | ((with_reducible show wpAny _ _ (execs (_ :: _) _) _ _ _); ((with_reducible refine Mine.gen_tok ?_); intro tk; (with_reducible refine wpAny_execs_cons ?_); (try dsimp only))) | walk1 | (dsimp only; walk1) | (leave1; walk_say "STEP leave1"; try dsimp only) | fail "no step"))
  exact ret _ _ (by k_asm) (news_sub (by k_asm) (by first | exact fun _ z => z | exact fun _ z => List.mem_cons_of_mem _ z))
set_option maxRecDepth 100000 in
set_option maxHeartbeats 8000000 in
theorem inner_ok_flds {prog : Program} {w : World} {p : Program} {loose : List Str} {mean : ExcName → Option Value} {mg mb : Str → Option Value} {dp un : Nat} {gd : Option (List Code)} {cn : Str} {cs : Scope} {a : Addr} {ccd : Value} {cl : List (Str × Addr)} {outer : List Env} {A₀ : Around} {base h₀ : Heap} {L : Addr} {m : Str → Option Value} {s : Shared} {Q E : Value → Shared → Prop} {news : List (Addr × Obj)}
    (B : Below A₀ base outer h₀) (F : Fr h₀ L s.heap m) (X : (Mine.kmk.heap_1 w.params).In h₀) (N : News h₀ L s.heap news) (T : Top p loose mean mg mb h₀) (hk : cs.kind = .function)
    {x p : Addr} {k kp : Nat} {t ti ty : Tok} {y i : Int} {its : List Value} {v : Value} (hm : (x, tup #[.str "fields" t, .ref p] k) ∈ news) (hp : (p, tup its.toArray kp) ∈ news) (hl : its.length ≤ 3) (hnn : NN w news (.ref x)) (h0 : 0 ≤ i) (hi : i < its.length) (he : its[i.toNat]? = some v) (hdp : dp + 2 < recursionLimit) (hun : un + 80 < cLine)
    (ret : ∀ h' tk', Fr h₀ L h' m → News h₀ L h' news → Q v { s with heap := h', toks := tk' }) :
    wpAny (model prog w) (ktrTop dp un gd cn cs L a ccd cl outer) (call (.ref 112) [.ref x, .int i ti]) Q E s := by
  refine wpAny_call ?_
  k_dflt ktr_enter
  (repeat' (first | (k_unfold; (try dsimp only)) | (k_end; wrow_close) | ((with_reducible show wpAny _ _ (compareOp CmpOp.Eq (Value.ref _) (Value.ref _)) _ _ _); (k_dflt (first | refine nothing_eq (by k_asm) (by k_asm) (by ktr_units) ?_ | refine nothing_ne (by k_asm) (by k_asm) (by k_asm) (by with_reducible assumption) (by ktr_units) ?_))) | (((with_reducible show wpAny _ _ (call (Value.ref 105) _) _ _ _); k_dflt (refine wpAny_call ?_; (refine' code_def ?k1 ?k2 ?k3 ?k4 ?k5 ?kA ?kF ?kK ?k6 ?k7 ?k8 ?k9 ?kB ?_ ?c2 ?c3 ?c4 ?c5; (case kA => exact rfl); (case kF => exact rfl); (case kK => first | exact rfl | assumption); (case k1 => k_asm); (case k2 => k_asm); (case k3 => k_asm); (case k4 => k_asm); (case k5 => k_asm); (case k6 => k_is); (case k7 => k_is); (case k8 => ktr_room); (case k9 => exact BindsTo.of_eq rfl); (case c5 => decide); (case kB => exact locs rfl); (case c2 => exact rfl); (case c3 => exact rfl); (case c4 => exact rfl); k_whole; intro g' L' h' FG' F' N' B' X' T'; (try dsimp only); (try k_lift B'); (try k_fold))))) | ((with_reducible show wpAny _ _ (subscriptTail (PySem.Expr.Name _ _) (PySem.Expr.Name _ _) (Value.ref _) (Value.int _ _)) _ _ _); (k_dflt (refine item_tupI (by k_asm) (by first | with_reducible assumption | exact List.mem_cons_of_mem _ (by with_reducible assumption) | exact List.mem_cons_of_mem _ (List.mem_cons_of_mem _ (by with_reducible assumption)) | k_mem) (by with_reducible assumption) (by with_reducible assumption) (by with_reducible assumption) ?_))) | ((with_reducible show wpAny _ _ (call (Value.builtin "len") [_]) _ _ _); (k_dflt (refine len_tupL (by k_asm) (by first | with_reducible assumption | exact List.mem_cons_of_mem _ (by with_reducible assumption) | exact List.mem_cons_of_mem _ (List.mem_cons_of_mem _ (by with_reducible assumption)) | k_mem) (by with_reducible assumption) ?_))) | ((with_reducible show wpAny _ _ (subscriptTail (PySem.Expr.Name _ _) (PySem.Expr.UnaryOp _ _ _) (Value.ref _) (Value.int _ _)) _ _ _); (k_dflt (first | refine item_last2 (by k_asm) (by first | with_reducible assumption | exact List.mem_cons_of_mem _ (by with_reducible assumption) | exact List.mem_cons_of_mem _ (List.mem_cons_of_mem _ (by with_reducible assumption)) | k_mem) ?_ | refine item_last3 (by k_asm) (by first | with_reducible assumption | exact List.mem_cons_of_mem _ (by with_reducible assumption) | exact List.mem_cons_of_mem _ (List.mem_cons_of_mem _ (by with_reducible assumption)) | k_mem) ?_))) | ((with_reducible show wpAny _ _ (eval (PySem.Expr.Call (PySem.Expr.Name _ _) (_ :: _) [] _) _) _ _ _); (k_dflt (refine call_svs (by rfl) (by first | exact rfl | assumption) (by k_asm) (by k_asm) (by k_asm) (by k_is) (by k_is) (by rfl) ?_))) | ((with_reducible show wpAny _ _ (eval (PySem.Expr.Subscript _ _ _) _) _ _ _); (k_dflt (refine sub_sv (by rfl) (by first | exact rfl | assumption) (by k_asm) (by rfl) (by rfl) ?_))) | ((with_reducible show wpAny _ _ (PySem.isTrue (PySem.Expr.Compare _ [_] [_] _) _ _) _ _ _); (k_dflt (first | refine isTrue_sv (by rfl) (by first | exact rfl | assumption) (by k_asm) (by rfl) (by rfl) ?_ | refine isTrue_sub (by rfl) (by first | exact rfl | assumption) (by k_asm) (by rfl) (by rfl) ?_); (try dsimp only))) | ((with_reducible show wpAny _ _ (eval (PySem.Expr.Tuple _ _ _) _) _ _ _); (k_dflt (refine tuple_svs (by rfl) (by first | exact rfl | assumption) (by k_asm) (by k_asm) (by rfl) (by size_fits) ?_); intro Dw7 hw7 ow7 Fw7 Nw7 lw7)) | ((with_reducible show wpAny _ _ (execs [] _) _ _ _); ((with_reducible refine Mine.gen_tok ?_); intro tk; (with_reducible refine wpAny_execs_nil ?_); (try dsimp only))) | ((with_reducible show wpAny _ _ (execs (_ :: _) _) _ _ _); ((with_reducible refine Mine.gen_tok ?_); intro tk; (with_reducible refine wpAny_execs_cons ?_); (try dsimp only))) | walk1 | (dsimp only; walk1) | (leave1; walk_say "STEP leave1"; try dsimp only) | fail "no step"))
  exact ret _ _ (by k_asm) (news_sub (by k_asm) (by first | exact fun _ z => z | exact fun _ z => List.mem_cons_of_mem _ z))
set_option maxRecDepth 100000 in
set_option maxHeartbeats 8000000 in
theorem inner_ok_vrnt {prog : Program} {w : World} {p : Program} {loose : List Str} {mean : ExcName → Option Value} {mg mb : Str → Option Value} {dp un : Nat} {gd : Option (List Code)} {cn : Str} {cs : Scope} {a : Addr} {ccd : Value} {cl : List (Str × Addr)} {outer : List Env} {A₀ : Around} {base h₀ : Heap} {L : Addr} {m : Str → Option Value} {s : Shared} {Q E : Value → Shared → Prop} {news : List (Addr × Obj)}
    (B : Below A₀ base outer h₀) (F : Fr h₀ L s.heap m) (X : (Mine.kmk.heap_1 w.params).In h₀) (N : News h₀ L s.heap news) (T : Top p loose mean mg mb h₀) (hk : cs.kind = .function)
    {x p : Addr} {k kp : Nat} {t ti ty : Tok} {y i : Int} {its : List Value} {v : Value} (hm : (x, tup #[.str "variant" t, .int y ty, .ref p] k) ∈ news) (hp : (p, tup its.toArray kp) ∈ news) (hl : its.length ≤ 3) (hnn : NN w news (.ref x)) (h0 : 0 ≤ i) (hi : i < its.length) (he : its[i.toNat]? = some v) (hdp : dp + 2 < recursionLimit) (hun : un + 80 < cLine)
    (ret : ∀ h' tk', Fr h₀ L h' m → News h₀ L h' news → Q v { s with heap := h', toks := tk' }) :
    wpAny (model prog w) (ktrTop dp un gd cn cs L a ccd cl outer) (call (.ref 112) [.ref x, .int i ti]) Q E s := by
  refine wpAny_call ?_
  k_dflt ktr_enter
  (repeat' (first | (k_unfold; (try dsimp only)) | (k_end; wrow_close) | ((with_reducible show wpAny _ _ (compareOp CmpOp.Eq (Value.ref _) (Value.ref _)) _ _ _); (k_dflt (first | refine nothing_eq (by k_asm) (by k_asm) (by ktr_units) ?_ | refine nothing_ne (by k_asm) (by k_asm) (by k_asm) (by with_reducible assumption) (by ktr_units) ?_))) | (((with_reducible show wpAny _ _ (call (Value.ref 105) _) _ _ _); k_dflt (refine wpAny_call ?_; (refine' code_def ?k1 ?k2 ?k3 ?k4 ?k5 ?kA ?kF ?kK ?k6 ?k7 ?k8 ?k9 ?kB ?_ ?c2 ?c3 ?c4 ?c5; (case kA => exact rfl); (case kF => exact rfl); (case kK => first | exact rfl | assumption); (case k1 => k_asm); (case k2 => k_asm); (case k3 => k_asm); (case k4 => k_asm); (case k5 => k_asm); (case k6 => k_is); (case k7 => k_is); (case k8 => ktr_room); (case k9 => exact BindsTo.of_eq rfl); (case c5 => decide); (case kB => exact locs rfl); (case c2 => exact rfl); (case c3 => exact rfl); (case c4 => exact rfl); k_whole; intro g' L' h' FG' F' N' B' X' T'; (try dsimp only); (try k_lift B'); (try k_fold))))) | ((with_reducible show wpAny _ _ (subscriptTail (PySem.Expr.Name _ _) (PySem.Expr.Name _ _) (Value.ref _) (Value.int _ _)) _ _ _); (k_dflt (refine item_tupI (by k_asm) (by first | with_reducible assumption | exact List.mem_cons_of_mem _ (by with_reducible assumption) | exact List.mem_cons_of_mem _ (List.mem_cons_of_mem _ (by with_reducible assumption)) | k_mem) (by with_reducible assumption) (by with_reducible assumption) (by with_reducible assumption) ?_))) | ((with_reducible show wpAny _ _ (call (Value.builtin "len") [_]) _ _ _); (k_dflt (refine len_tupL (by k_asm) (by first | with_reducible assumption | exact List.mem_cons_of_mem _ (by with_reducible assumption) | exact List.mem_cons_of_mem _ (List.mem_cons_of_mem _ (by with_reducible assumption)) | k_mem) (by with_reducible assumption) ?_))) | ((with_reducible show wpAny _ _ (subscriptTail (PySem.Expr.Name _ _) (PySem.Expr.UnaryOp _ _ _) (Value.ref _) (Value.int _ _)) _ _ _); (k_dflt (first | refine item_last2 (by k_asm) (by first | with_reducible assumption | exact List.mem_cons_of_mem _ (by with_reducible assumption) | exact List.mem_cons_of_mem _ (List.mem_cons_of_mem _ (by with_reducible assumption)) | k_mem) ?_ | refine item_last3 (by k_asm) (by first | with_reducible assumption | exact List.mem_cons_of_mem _ (by with_reducible assumption) | exact List.mem_cons_of_mem _ (List.mem_cons_of_mem _ (by with_reducible assumption)) | k_mem) ?_))) | ((with_reducible show wpAny _ _ (eval (PySem.Expr.Call (PySem.Expr.Name _ _) (_ :: _) [] _) _) _ _ _); (k_dflt (refine call_svs (by rfl) (by first | exact rfl | assumption) (by k_asm) (by k_asm) (by k_asm) (by k_is) (by k_is) (by rfl) ?_))) | ((with_reducible show wpAny _ _ (eval (PySem.Expr.Subscript _ _ _) _) _ _ _); (k_dflt (refine sub_sv (by rfl) (by first | exact rfl | assumption) (by k_asm) (by rfl) (by rfl) ?_))) | ((with_reducible show wpAny _ _ (PySem.isTrue (PySem.Expr.Compare _ [_] [_] _) _ _) _ _ _); (k_dflt (first | refine isTrue_sv (by rfl) (by first | exact rfl | assumption) (by k_asm) (by rfl) (by rfl) ?_ | refine isTrue_sub (by rfl) (by first | exact rfl | assumption) (by k_asm) (by rfl) (by rfl) ?_); (try dsimp only))) | ((with_reducible show wpAny _ _ (eval (PySem.Expr.Tuple _ _ _) _) _ _ _); (k_dflt (refine tuple_svs (by rfl) (by first | exact rfl | assumption) (by k_asm) (by k_asm) (by rfl) (by size_fits) ?_); intro Dw7 hw7 ow7 Fw7 Nw7 lw7)) | ((with_reducible show wpAny _ _ (execs [] _) _ _ _); ((with_reducible refine Mine.gen_tok ?_); intro tk; (with_reducible refine wpAny_execs_nil ?_); (try dsimp only))) | ((with_reducible show wpAny _ _ (execs (_ :: _) _) _ _ _); ((with_reducible refine Mine.gen_tok ?_); intro tk; (with_reducible refine wpAny_execs_cons ?_); (try dsimp only))) | walk1 | (dsimp only; walk1) | (leave1; walk_say "STEP leave1"; try dsimp only) | fail "no step"))
  exact ret _ _ (by k_asm) (news_sub (by k_asm) (by first | exact fun _ z => z | exact fun _ z => List.mem_cons_of_mem _ z))
end Mine
end
section
namespace Mine
open PySem.Spec PySem.Calls
noncomputable def UV (v : Value) : Prop := (∃ i t, v = .int i t) ∨ (∃ b, v = .bool b) ∨ v = .ref 98
inductive VB (w : World) (n : List (Addr × Obj)) : Value → List ((Int ⊕ Str) × Value) → Prop
  | ref {a k t x} : (a, tup #[.str (Str.ofString "ref") t, x] k) ∈ n → RG w n x → VB w n (.ref a) []
  | box {a k t x} : (a, tup #[.str (Str.ofString "box") t, x] k) ∈ n → RG w n x → VB w n (.ref a) [(.inr (Str.ofString "*"), x)]
  | flds {a k t p kp its} : (a, tup #[.str (Str.ofString "fields") t, .ref p] k) ∈ n → (p, tup its.toArray kp) ∈ n → its.length ≤ 3 → RGs w n its → VB w n (.ref a) (idxL 0 its)
  | vrnt {a k t y ty p kp its} : (a, tup #[.str (Str.ofString "variant") t, .int y ty, .ref p] k) ∈ n → (p, tup its.toArray kp) ∈ n → its.length ≤ 3 → RGs w n its → VB w n (.ref a) (idxL 0 its)
theorem VF.split {w : World} {n : List (Addr × Obj)} {v : Value} {kvs : List ((Int ⊕ Str) × Value)} (h : VF w n v kvs) : (UV v ∧ kvs = []) ∨ VB w n v kvs := by
  cases h with
  | int i t => exact .inl ⟨.inl ⟨_, _, rfl⟩, rfl⟩
  | bool b => exact .inl ⟨.inr (.inl ⟨_, rfl⟩), rfl⟩
  | nothing => exact .inl ⟨.inr (.inr rfl), rfl⟩
  | ref a b => exact .inr (.ref a b)
  | box a b => exact .inr (.box a b)
  | flds a b c d => exact .inr (.flds a b c d)
  | vrnt a b c d => exact .inr (.vrnt a b c d)
theorem VB.nn {w : World} {n : List (Addr × Obj)} {v : Value} {kvs : List ((Int ⊕ Str) × Value)} (h : VB w n v kvs) : ∃ x arr k, v = .ref x ∧ (x, tup arr k) ∈ n ∧ NN w n (.ref x) ∧ SH w n (.ref x) := by
  cases h with
  | ref a b => exact ⟨_, _, _, rfl, a, nn_ref a b⟩
  | box a b => exact ⟨_, _, _, rfl, a, nn_box a b⟩
  | flds a b c d => exact ⟨_, _, _, rfl, a, nn_flds a b d⟩
  | vrnt a b c d => exact ⟨_, _, _, rfl, a, nn_vrnt a b d⟩
theorem VB.mono {w : World} {n n' : List (Addr × Obj)} {v : Value} {kvs : List ((Int ⊕ Str) × Value)} (h : VB w n v kvs) (s : ∀ p ∈ n, p ∈ n') : VB w n' v kvs := by
  cases h with
  | ref a b => exact .ref (s _ a) (b.mono s)
  | box a b => exact .box (s _ a) (b.mono s)
  | flds a b c d => exact .flds (s _ a) (s _ b) c (d.mono s)
  | vrnt a b c d => exact .vrnt (s _ a) (s _ b) c (d.mono s)
theorem inner_badU {prog : Program} {w : World} {p : Program} {loose : List Str} {mean : ExcName → Option Value} {mg mb : Str → Option Value} {dp un : Nat} {gd : Option (List Code)} {cn : Str} {cs : Scope} {a : Addr} {ccd : Value} {cl : List (Str × Addr)} {outer : List Env} {A₀ : Around} {base h₀ : Heap} {L : Addr} {m : Str → Option Value} {s : Shared} {Q E : Value → Shared → Prop} {news : List (Addr × Obj)}
    (B : Below A₀ base outer h₀) (F : Fr h₀ L s.heap m) (X : (Mine.kmk.heap_1 w.params).In h₀) (N : News h₀ L s.heap news) (T : Top p loose mean mg mb h₀) (hk : cs.kind = .function) (hg : s.gens = #[]) (hb : base.get? 0 = some (bnObj w.params)) (XB : (Mine.kmk.heap_1 w.params).In base) {v st : Value} (hu : UV v)
    (ret : ∀ e dd od tk G h' tk', RsS base G (envX cn cs L a ccd cl :: outer) e (.ref 59) dd ((dd, od) :: news) h' → G.UpToSlots h' → lookIn "kind" od = some (some (.str "uninitialised" tk)) → Fr h₀ L G m → E (.ref e) { s with heap := h', toks := tk' }) :
    wpAny (model prog w) (ktrTop 305 16 gd cn cs L a ccd cl outer) (call (.ref 112) [v, st]) Q E s := by
  rcases hu with ⟨i, t, rfl⟩ | ⟨b, rfl⟩ | rfl
  · exact inner_bad_int (dp := dp) (un := un) B F X N T hk hg hb XB ret
  · exact inner_bad_bool (dp := dp) (un := un) B F X N T hk hg hb XB ret
  · exact inner_bad_nothing (dp := dp) (un := un) B F X N T hk hg hb XB ret
theorem inner_badB {prog : Program} {w : World} {p : Program} {loose : List Str} {mean : ExcName → Option Value} {mg mb : Str → Option Value} {dp un : Nat} {gd : Option (List Code)} {cn : Str} {cs : Scope} {a : Addr} {ccd : Value} {cl : List (Str × Addr)} {outer : List Env} {A₀ : Around} {base h₀ : Heap} {L : Addr} {m : Str → Option Value} {s : Shared} {Q E : Value → Shared → Prop} {news : List (Addr × Obj)}
    (B : Below A₀ base outer h₀) (F : Fr h₀ L s.heap m) (X : (Mine.kmk.heap_1 w.params).In h₀) (N : News h₀ L s.heap news) (T : Top p loose mean mg mb h₀) (hk : cs.kind = .function) (hg : s.gens = #[]) (hb : base.get? 0 = some (bnObj w.params)) (XB : (Mine.kmk.heap_1 w.params).In base) {v st : Value} {k : Int ⊕ Str} {kvs : List ((Int ⊕ Str) × Value)} (hv : VB w news v kvs) (hst : StepOk st k) (hno : valueAt kvs k = none)
    (ret : ∀ e dd od tk G h' tk', RsS base G (envX cn cs L a ccd cl :: outer) e (.ref 59) dd ((dd, od) :: news) h' → G.UpToSlots h' → lookIn "kind" od = some (some (.str "bounds" tk)) → Fr h₀ L G m → E (.ref e) { s with heap := h', toks := tk' }) :
    wpAny (model prog w) (ktrTop 305 16 gd cn cs L a ccd cl outer) (call (.ref 112) [v, st]) Q E s := by
  cases hv with
  | ref a b => exact inner_bad_ref (dp := dp) (un := un) B F X N T hk hg hb XB a (nn_ref a b).1 ret
  | box a b =>
    rcases hst with ⟨i, t, rfl, rfl⟩ | ⟨t, rfl, rfl⟩
    · exact inner_bad_box (dp := dp) (un := un) B F X N T hk hg hb XB a (nn_box a b).1 ret
    · simp [valueAt] at hno
  | flds a b c d =>
    have nn := (nn_flds a b d).1
    rcases hst with ⟨i, t, rfl, rfl⟩ | ⟨t, rfl, rfl⟩
    · by_cases h0 : 0 ≤ i
      · rw [valueAt_idx _ 0 i (by simpa using h0)] at hno
        have := List.getElem?_eq_none_iff.mp hno
        exact inner_bad_fldsP (y := 0) (ty := t) (dp := dp) (un := un) B F X N T hk hg hb XB a b c nn h0 (by simp at this; omega) ret
      · exact inner_bad_fldsN (y := 0) (ty := t) (dp := dp) (un := un) B F X N T hk hg hb XB a b c nn (by omega) ret
    · exact inner_bad_fldsS (i := 0) (ti := t) (y := 0) (ty := t) (dp := dp) (un := un) B F X N T hk hg hb XB a b c nn ret
  | vrnt a b c d =>
    have nn := (nn_vrnt a b d).1
    rcases hst with ⟨i, t, rfl, rfl⟩ | ⟨t, rfl, rfl⟩
    · by_cases h0 : 0 ≤ i
      · rw [valueAt_idx _ 0 i (by simpa using h0)] at hno
        have := List.getElem?_eq_none_iff.mp hno
        exact inner_bad_vrntP (dp := dp) (un := un) B F X N T hk hg hb XB a b c nn h0 (by simp at this; omega) ret
      · exact inner_bad_vrntN (dp := dp) (un := un) B F X N T hk hg hb XB a b c nn (by omega) ret
    · exact inner_bad_vrntS (i := 0) (ti := t) (dp := dp) (un := un) B F X N T hk hg hb XB a b c nn ret
inductive TabS (line col : Int) (qual : Str) : Obj → List (Addr × Obj) → Prop
  | empty : TabS line col qual (tabObj #[]) []
  | full {c' : Addr} {oc : Obj} {vs : Array Value} {t : Tok} : oc.data = .fields vs → vs[1]? = some (.str qual t) → TabS line col qual (tabObj #[rawInt line, rawInt col, .ref c']) [(c', oc)]
theorem isi_tup {prog : Program} {w : World} {A : Around} {E : Value → Shared → Prop} {s : Shared} {h₀ : Heap} {L x : Addr} {news : List (Addr × Obj)} {arr : Array Value} {k : Nat} {Q : Value → Shared → Prop} (N : News h₀ L s.heap news) (hm : (x, tup arr k) ∈ news) (h : Q (.bool false) { s with toks := s.toks + 1 }) :
    wpAny (model prog w) A (call (.builtin "isinstance") [.ref x, .type "int"]) Q E s :=
  IsiPair.isTuple_int (h₀ := s.heap) ⟨_, N.get hm, rfl, _, rfl⟩ (fun _ _ e => e) h
end Mine
end
section
namespace Mine
open PySem.Spec PySem.Calls
section
variable {prog : Program} {w : World} {A : Around} {E : Value → Shared → Prop} {s : Shared} {h₀ : Heap} {L : Addr} {m : Str → Option Value} {news : List (Addr × Obj)}
theorem ne_sh {v v' : Value} {d : PyData} {Q : Value → Shared → Prop} (F : Fr h₀ L s.heap m) (N : News h₀ L s.heap news) (X : (Mine.kmk.heap_1 w.params).In h₀) (r1 : Rd w news v d) (r2 : Rd w news v' d) (g1 : PyData.canLay0 d = true) (g2 : PyData.depth d ≤ 12) (hu : A.units + 64 < cLine) (hq : Q (.bool false) s) :
    wpAny (model prog w) A (compareOp .NotEq v v') Q E s := by
  have X' := X.keeps F.keep
  obtain ⟨_, a1⟩ := r1 _ X' fun p hp => (N p hp).1
  obtain ⟨_, a2⟩ := r2 _ X' fun p hp => (N p hp).1
  exact ne_dataH a1 a2 (shaped_of g1 g2) (shaped_of g1 g2) hu (by rw [PySem.SeqAt.eqv_refl d g1]; exact hq)
theorem ne_rg {v : Value} {n : List (Addr × Obj)} {Q : Value → Shared → Prop} (F : Fr h₀ L s.heap m) (N : News h₀ L s.heap news) (X : (Mine.kmk.heap_1 w.params).In h₀) (h : RG w n v) (hs : ∀ p ∈ n, p ∈ news) (hu : A.units + 64 < cLine) (hq : Q (.bool false) s) :
    wpAny (model prog w) A (compareOp .NotEq v v) Q E s :=
  let ⟨_, a, b⟩ := h.mono hs; ne_sh F N X a a b.1 (Nat.le_trans b.2 (by decide)) hu hq
theorem ne_box {x y : Addr} {k k' : Nat} {t t' : Tok} {v : Value} {n : List (Addr × Obj)} {Q : Value → Shared → Prop} (F : Fr h₀ L s.heap m) (N : News h₀ L s.heap news) (X : (Mine.kmk.heap_1 w.params).In h₀) (h1 : (x, tup #[.str (Str.ofString "box") t, v] k) ∈ news) (h2 : (y, tup #[.str (Str.ofString "box") t', v] k') ∈ news)
    (h : RG w n v) (hs : ∀ p ∈ n, p ∈ news) (hu : A.units + 64 < cLine) (hq : Q (.bool false) s) : wpAny (model prog w) A (compareOp .NotEq (.ref x) (.ref y)) Q E s := by
  obtain ⟨d, r, g1, g2⟩ := h.mono hs
  refine ne_sh F N X (Rd.tuple h1 rfl rfl (.cons .str (.cons r .nil))) (Rd.tuple h2 rfl rfl (.cons .str (.cons r .nil))) ?_ ?_ hu hq
  · simp only [PyData.canLay0, PyData.canLayAll0, g1, Bool.and_true]; decide +kernel
  · simp only [PyData.depth, PyData.depthAll]; omega
theorem ne_flds {x y p q : Addr} {k k' kp kq : Nat} {t t' : Tok} {its its' : List Value} {n : List (Addr × Obj)} {Q : Value → Shared → Prop} (F : Fr h₀ L s.heap m) (N : News h₀ L s.heap news) (X : (Mine.kmk.heap_1 w.params).In h₀) (h1 : (x, tup #[.str (Str.ofString "fields") t, .ref p] k) ∈ news) (hp : (p, tup its'.toArray kp) ∈ news)
    (h2 : (y, tup #[.str (Str.ofString "fields") t', .ref q] k') ∈ news) (hq2 : (q, tup its.toArray kq) ∈ news) (he : its' = its) (h : RGs w n its) (hs : ∀ p ∈ n, p ∈ news) (hu : A.units + 64 < cLine) (hq : Q (.bool false) s) : wpAny (model prog w) A (compareOp .NotEq (.ref x) (.ref y)) Q E s := by
  subst he
  obtain ⟨ds, r, g1, g2⟩ := (h.mono hs).all
  refine ne_sh F N X (Rd.tuple h1 rfl rfl (.cons .str (.cons (Rd.tuple hp rfl rfl r) .nil))) (Rd.tuple h2 rfl rfl (.cons .str (.cons (Rd.tuple hq2 rfl rfl r) .nil))) ?_ ?_ hu hq
  · simp only [PyData.canLay0, PyData.canLayAll0, g1, Bool.and_true]; decide +kernel
  · simp only [PyData.depth, PyData.depthAll]; omega
theorem ne_vrnt {x y p q : Addr} {k k' kp kq : Nat} {t t' ty ty' : Tok} {z : Int} {its its' : List Value} {n : List (Addr × Obj)} {Q : Value → Shared → Prop} (F : Fr h₀ L s.heap m) (N : News h₀ L s.heap news) (X : (Mine.kmk.heap_1 w.params).In h₀) (h1 : (x, tup #[.str (Str.ofString "variant") t, .int z ty, .ref p] k) ∈ news) (hp : (p, tup its'.toArray kp) ∈ news)
    (h2 : (y, tup #[.str (Str.ofString "variant") t', .int z ty', .ref q] k') ∈ news) (hq2 : (q, tup its.toArray kq) ∈ news) (he : its' = its) (h : RGs w n its) (hs : ∀ p ∈ n, p ∈ news) (hu : A.units + 64 < cLine) (hq : Q (.bool false) s) : wpAny (model prog w) A (compareOp .NotEq (.ref x) (.ref y)) Q E s := by
  subst he
  obtain ⟨ds, r, g1, g2⟩ := (h.mono hs).all
  refine ne_sh F N X (Rd.tuple h1 rfl rfl (.cons .str (.cons .int (.cons (Rd.tuple hp rfl rfl r) .nil)))) (Rd.tuple h2 rfl rfl (.cons .str (.cons .int (.cons (Rd.tuple hq2 rfl rfl r) .nil)))) ?_ ?_ hu hq
  · simp only [PyData.canLay0, PyData.canLayAll0, g1, Bool.and_true]; decide +kernel
  · simp only [PyData.depth, PyData.depthAll]; omega
theorem slice_neg2 {value slice : PySem.Expr} {t : Addr} {v0 v1 : Value} {n : Nat} {u : Tok} {Q : Value → Shared → Prop} (F : Fr h₀ L s.heap m) (N : News h₀ L s.heap news) (hm : (t, tup #[v0, v1] n) ∈ news)
    (h : ∀ D h', Fr h₀ L h' m → News h₀ L h' ((D, tup #[v0] 0) :: news) → (∀ p ∈ news, p.1 < D) → Q (.ref D) { s with heap := h' })
    (hs : subscripted slice false (.ref t) (.ref s.heap.objs.size) = operate [.ref s.heap.objs.size, .ref t] (getItem (.ref t) (.ref s.heap.objs.size)) := by with_unfolding_all rfl)
    (hg : ∀ r, letTemporaryGo value (.ref t) r = pure () := by intro _; with_unfolding_all rfl) :
    wpAny (model prog w) A (subscriptTail value slice (.ref t) (.ref s.heap.objs.size)) Q E { s with heap := s.heap.push { cls := .type "slice", data := .fields #[.none, .int (-1) u, .none] } } :=
  slice_upto (b := 1) F N hm (adj_neg1 2 (by decide)) (by simp) (by simp) h hs hg
theorem slice_neg3 {value slice : PySem.Expr} {t : Addr} {v0 v1 v2 : Value} {n : Nat} {u : Tok} {Q : Value → Shared → Prop} (F : Fr h₀ L s.heap m) (N : News h₀ L s.heap news) (hm : (t, tup #[v0, v1, v2] n) ∈ news)
    (h : ∀ D h', Fr h₀ L h' m → News h₀ L h' ((D, tup #[v0, v1] 0) :: news) → (∀ p ∈ news, p.1 < D) → Q (.ref D) { s with heap := h' })
    (hs : subscripted slice false (.ref t) (.ref s.heap.objs.size) = operate [.ref s.heap.objs.size, .ref t] (getItem (.ref t) (.ref s.heap.objs.size)) := by with_unfolding_all rfl)
    (hg : ∀ r, letTemporaryGo value (.ref t) r = pure () := by intro _; with_unfolding_all rfl) :
    wpAny (model prog w) A (subscriptTail value slice (.ref t) (.ref s.heap.objs.size)) Q E { s with heap := s.heap.push { cls := .type "slice", data := .fields #[.none, .int (-1) u, .none] } } :=
  slice_upto (b := 2) F N hm (adj_neg1 3 (by decide)) (by simp) (by simp) h hs hg
end
theorem keyP_box {prog : Program} {w : World} {x : Value} {i : Nat} {v : Value} (h : KeyP prog w [(.inr (Str.ofString "*"), x)] i v) : ∃ t, v = .str (Str.ofString "*") t := by
  obtain ⟨k, y, h1, h2⟩ := h
  rcases i with _ | i
  · simp at h1
    obtain ⟨rfl, -⟩ := h1
    exact Value.isStrOf_shape h2
  · simp at h1
theorem idxL_get : ∀ (its : List Value) (j i : Nat) (k : Int ⊕ Str) (y : Value), (idxL j its)[i]? = some (k, y) → k = .inl ((j + i : Nat) : Int) ∧ its[i]? = some y
  | [], _, _, _, _, h => by simp [idxL] at h
  | x :: r, j, 0, k, y, h => by
    simp [idxL] at h
    exact ⟨by rw [← h.1]; simp, by simp [h.2]⟩
  | x :: r, j, i + 1, k, y, h => by
    unfold idxL at h
    rw [List.getElem?_cons_succ] at h
    obtain ⟨a, b⟩ := idxL_get r (j + 1) i k y h
    exact ⟨by rw [a]; congr 1; omega, by rw [List.getElem?_cons_succ]; exact b⟩
theorem keyP_idx {prog : Program} {w : World} {its : List Value} {i : Nat} {v : Value} (h : KeyP prog w (idxL 0 its) i v) : ∃ t y, v = .int (i : Int) t ∧ its[i]? = some y ∧ i < its.length := by
  obtain ⟨k, y, h1, h2⟩ := h
  obtain ⟨rfl, e⟩ := idxL_get _ _ _ _ _ h1
  obtain ⟨t, rfl⟩ := Value.isInt_shape h2
  exact ⟨t, y, by simp, e, (List.getElem?_eq_some_iff.mp e).1⟩
theorem idxL_len : ∀ (its : List Value) (j : Nat), (idxL j its).length = its.length
  | [], _ => rfl
  | _ :: r, j => by unfold idxL; rw [List.length_cons, List.length_cons, idxL_len r]
theorem set_set {its : List Value} {i : Nat} {x y : Value} (h : its[i]? = some y) : (its.set i x).set i y = its := by
  rw [List.set_set]
  apply List.ext_getElem?
  intro j
  by_cases e : i = j
  · subst e; rw [List.getElem?_set_self (List.getElem?_eq_some_iff.mp h).1, h]
  · rw [List.getElem?_set_ne e]
theorem RGs.set {w : World} {n : List (Addr × Obj)} {its : List Value} {i : Nat} {x : Value} (h : RGs w n its) (hx : RG w n x) : RGs w n (its.set i x) := fun v hv => by
  rcases List.mem_or_eq_of_mem_set hv with hv | rfl
  · exact h v hv
  · exact hx
theorem RGs.at {w : World} {n : List (Addr × Obj)} {its : List Value} {i : Nat} {x : Value} (h : RGs w n its) (hx : its[i]? = some x) : RG w n x := h x (List.mem_of_getElem? hx)
end Mine
end
end
section
local macro_rules | `(tactic| lcg_src) => `(tactic| first | with_reducible assumption | exact List.mem_cons_self | (refine List.mem_cons_of_mem _ ?_; lcg_src) | (refine List.mem_append_right _ ?_; lcg_src) | (refine List.mem_append_left _ ?_; lcg_src))
local macro_rules | `(tactic| k_lt $h) => `(tactic| replace $h := allLt_of $h)
local macro_rules | `(tactic| kaf_pre) => `(tactic| first | with_reducible assumption | exact Mine.allLt_mem (by with_reducible assumption) (by lcg_src) | exact Nat.lt_succ_self _ | (refine Mine.lt_via (by with_reducible assumption) ?_; kaf_pre) | (refine Nat.lt_succ_of_lt ?_; kaf_pre))
local macro_rules | `(tactic| k_ne) => `(tactic| (refine neN ?_; (try dsimp only); first | with_reducible assumption | exact Nat.ne_of_gt (by kaf_pre) | exact Nat.ne_of_lt (by kaf_pre) | omega))
local macro_rules | `(tactic| kaf_suf) => `(tactic| first | exact Mine.allLt_suf (by with_reducible assumption) (by intro p hp; lcg_src) | (refine Mine.allLt_succ ?_; kaf_suf))
local macro_rules | `(tactic| k_all) => `(tactic| first | with_reducible assumption | exact Mine.tl_ne (by with_reducible assumption) (by k_mem) | exact Mine.allLt_ne (by kaf_suf) | (refine List.forall_mem_append.mpr ⟨?_, ?_⟩ <;> k_all))
section
namespace Mine
open PySem.Spec PySem.Calls
inductive Shp where
  | box (x : Value)
  | flds (its : List Value)
  | vrnt (y : Int) (its : List Value)
noncomputable def Shp.kvs : Shp → List ((Int ⊕ Str) × Value)
  | .box x => [(.inr (Str.ofString "*"), x)]
  | .flds its => idxL 0 its
  | .vrnt _ its => idxL 0 its
noncomputable def Shp.ok (w : World) (n : List (Addr × Obj)) : Shp → Prop
  | .box x => RG w n x
  | .flds its => its.length ≤ 3 ∧ RGs w n its
  | .vrnt _ its => its.length ≤ 3 ∧ RGs w n its
noncomputable def Shp.set : Shp → (Int ⊕ Str) → Value → Shp
  | .box _, _, z => .box z
  | .flds its, .inl i, z => .flds (its.set i.toNat z)
  | .flds its, .inr _, _ => .flds its
  | .vrnt y its, .inl i, z => .vrnt y (its.set i.toNat z)
  | .vrnt y its, .inr _, _ => .vrnt y its
noncomputable def Shp.hd : Shp → PyData
  | .box _ => .tuple [.str (Str.ofString "box")]
  | .flds _ => .tuple [.str (Str.ofString "fields")]
  | .vrnt y _ => .tuple [.str (Str.ofString "variant"), .int y]
theorem Shp.hd_set (sh : Shp) (k : Int ⊕ Str) (z : Value) : (sh.set k z).hd = sh.hd := by
  cases sh <;> cases k <;> rfl
inductive VS (n : List (Addr × Obj)) : Value → Shp → Prop
  | box {a k t x} : (a, tup #[.str (Str.ofString "box") t, x] k) ∈ n → VS n (.ref a) (.box x)
  | flds {a k t p kp its} : (a, tup #[.str (Str.ofString "fields") t, .ref p] k) ∈ n → (p, tup its.toArray kp) ∈ n → VS n (.ref a) (.flds its)
  | vrnt {a k t y ty p kp its} : (a, tup #[.str (Str.ofString "variant") t, .int y ty, .ref p] k) ∈ n → (p, tup its.toArray kp) ∈ n → VS n (.ref a) (.vrnt y its)
theorem VS.mono {n n' : List (Addr × Obj)} {v : Value} {sh : Shp} (h : VS n v sh) (s : ∀ p ∈ n, p ∈ n') : VS n' v sh := by
  cases h with
  | box a => exact .box (s _ a)
  | flds a b => exact .flds (s _ a) (s _ b)
  | vrnt a b => exact .vrnt (s _ a) (s _ b)
theorem Shp.ok.mono {w : World} {n n' : List (Addr × Obj)} {sh : Shp} (h : sh.ok w n) (s : ∀ p ∈ n, p ∈ n') : sh.ok w n' := by
  cases sh with
  | box x => exact RG.mono h s
  | flds its => exact ⟨h.1, h.2.mono s⟩
  | vrnt y its => exact ⟨h.1, h.2.mono s⟩
theorem Shp.ok_set {w : World} {n : List (Addr × Obj)} {sh : Shp} {k : Int ⊕ Str} {z : Value} (h : sh.ok w n) (hz : RG w n z) : (sh.set k z).ok w n := by
  cases sh with
  | box x => exact hz
  | flds its =>
    cases k with
    | inl i => exact ⟨by show (its.set _ _).length ≤ 3; rw [List.length_set]; exact h.1, h.2.set hz⟩
    | inr x => exact h
  | vrnt y its =>
    cases k with
    | inl i => exact ⟨by show (its.set _ _).length ≤ 3; rw [List.length_set]; exact h.1, h.2.set hz⟩
    | inr x => exact h
theorem key_idx {st x : Value} {k : Int ⊕ Str} {its : List Value} (hst : StepOk st k) (hin : valueAt (idxL 0 its) k = some x) : ∃ (i : Nat) (ti : Tok), st = .int (i : Int) ti ∧ k = .inl (i : Int) ∧ i < its.length ∧ its[i]? = some x := by
  rcases hst with ⟨i, t, rfl, rfl⟩ | ⟨t, rfl, rfl⟩
  · by_cases h0 : 0 ≤ i
    · rw [valueAt_idx _ 0 i (by simpa using h0)] at hin
      obtain ⟨j, rfl⟩ := Int.eq_ofNat_of_zero_le h0
      have e : ((j : Int) - ((0 : Nat) : Int)).toNat = j := by omega
      rw [e] at hin
      exact ⟨j, t, rfl, rfl, (List.getElem?_eq_some_iff.mp hin).1, hin⟩
    · rw [valueAt_neg _ 0 i (by omega)] at hin; cases hin
  · rw [valueAt_str] at hin; cases hin
theorem key_box {st x y : Value} {k : Int ⊕ Str} (hst : StepOk st k) (hin : valueAt [((.inr (Str.ofString "*") : Int ⊕ Str), y)] k = some x) : y = x ∧ k = .inr (Str.ofString "*") ∧ ∃ ts, st = .str (Str.ofString "*") ts := by
  rcases hst with ⟨i, t, rfl, rfl⟩ | ⟨t, rfl, rfl⟩
  · simp [valueAt] at hin
  · simp [valueAt] at hin
    exact ⟨hin, rfl, _, rfl⟩
theorem idx_of {its : List Value} (i : Nat) : valueAt (idxL 0 its) (.inl (i : Int)) = its[i]? := by
  rw [valueAt_idx _ 0 _ (by simp)]
  congr 1
theorem VB.shp {w : World} {n : List (Addr × Obj)} {v st x : Value} {k : Int ⊕ Str} {kvs : List ((Int ⊕ Str) × Value)} (h : VB w n v kvs) (hst : StepOk st k) (hin : valueAt kvs k = some x) : ∃ a sh, v = .ref a ∧ VS n (.ref a) sh ∧ sh.ok w n ∧ kvs = sh.kvs := by
  cases h with
  | ref a b => cases hin
  | box a b => exact ⟨_, .box _, rfl, .box a, b, rfl⟩
  | flds a b c d => exact ⟨_, .flds _, rfl, .flds a b, ⟨c, d⟩, rfl⟩
  | vrnt a b c d => exact ⟨_, .vrnt _ _, rfl, .vrnt a b, ⟨c, d⟩, rfl⟩
theorem VS.nn {w : World} {n : List (Addr × Obj)} {v : Value} {sh : Shp} (h : VS n v sh) (o : sh.ok w n) : NN w n v := by
  cases h with
  | box a => exact (nn_box a o).1
  | flds a b => exact (nn_flds a b o.2).1
  | vrnt a b => exact (nn_vrnt a b o.2).1
theorem Shp.rg {w : World} {n : List (Addr × Obj)} {sh : Shp} {st x : Value} {k : Int ⊕ Str} (o : sh.ok w n) (hst : StepOk st k) (hx : valueAt sh.kvs k = some x) : RG w n x := by
  cases sh with
  | box y => obtain ⟨rfl, -⟩ := key_box hst hx; exact o
  | flds its => obtain ⟨i, ti, -, -, -, e⟩ := key_idx hst hx; exact o.2.at e
  | vrnt y its => obtain ⟨i, ti, -, -, -, e⟩ := key_idx hst hx; exact o.2.at e
theorem Shp.set_back {sh : Shp} {st x z : Value} {k : Int ⊕ Str} (hst : StepOk st k) (hx : valueAt sh.kvs k = some x) : (sh.set k z).set k x = sh := by
  cases sh with
  | box y => obtain ⟨rfl, -⟩ := key_box hst hx; rfl
  | flds its => obtain ⟨i, ti, -, rfl, -, e⟩ := key_idx hst hx; show Shp.flds ((its.set i z).set i x) = _; rw [set_set e]
  | vrnt y its => obtain ⟨i, ti, -, rfl, -, e⟩ := key_idx hst hx; show Shp.vrnt y ((its.set i z).set i x) = _; rw [set_set e]
theorem Shp.get_set {sh : Shp} {st st' x x' z : Value} {k k' : Int ⊕ Str} (hst : StepOk st k) (hst' : StepOk st' k') (hx : valueAt sh.kvs k = some x) (hx' : valueAt sh.kvs k' = some x') : valueAt (sh.set k z).kvs k' = some (if k' = k then z else x') := by
  have key : ∀ its : List Value, valueAt (idxL 0 its) k = some x → valueAt (idxL 0 its) k' = some x' → ∃ i : Nat, k = .inl (i : Int) ∧ valueAt (idxL 0 (its.set i z)) k' = some (if k' = k then z else x') := fun its hx hx' => by
    obtain ⟨i, ti, -, rfl, hl, e⟩ := key_idx hst hx
    obtain ⟨j, tj, -, rfl, hl', e'⟩ := key_idx hst' hx'
    refine ⟨i, rfl, ?_⟩
    rw [idx_of]
    by_cases q : j = i
    · subst q; rw [if_pos rfl, List.getElem?_set_self hl]
    · rw [if_neg (fun z => q (by have := Sum.inl.inj z; omega)), List.getElem?_set_ne (Ne.symm q), e']
  cases sh with
  | box y =>
    obtain ⟨rfl, rfl, -⟩ := key_box hst hx
    obtain ⟨rfl, rfl, -⟩ := key_box hst' hx'
    simp [Shp.set, Shp.kvs, valueAt]
  | flds its => obtain ⟨i, rfl, e⟩ := key its hx hx'; exact e
  | vrnt y its => obtain ⟨i, rfl, e⟩ := key its hx hx'; exact e
theorem keyP_step {prog : Program} {w : World} {sh : Shp} {i : Nat} {v : Value} (h : KeyP prog w sh.kvs i v) : ∃ k x, StepOk v k ∧ valueAt sh.kvs k = some x := by
  have key : ∀ its : List Value, KeyP prog w (idxL 0 its) i v → ∃ k x, StepOk v k ∧ valueAt (idxL 0 its) k = some x := fun its h => by
    obtain ⟨t, y, rfl, e, -⟩ := keyP_idx h
    exact ⟨.inl (i : Int), y, .inl ⟨_, _, rfl, rfl⟩, by rw [idx_of]; exact e⟩
  cases sh with
  | box x =>
    obtain ⟨t, rfl⟩ := keyP_box h
    exact ⟨.inr (Str.ofString "*"), x, .inr ⟨_, rfl, rfl⟩, by simp [Shp.kvs, valueAt]⟩
  | flds its => exact key its h
  | vrnt y its => exact key its h
theorem Shp.len {w : World} {n : List (Addr × Obj)} {sh : Shp} (h : sh.ok w n) : sh.kvs.length ≤ sizeLine := by
  have q : ∀ its : List Value, its.length ≤ 3 → (idxL 0 its).length ≤ sizeLine := fun its h => by rw [idxL_len, sizeLine_eq]; omega
  cases sh with
  | box x => exact Nat.le_of_ble_eq_true rfl
  | flds its => exact q its h.1
  | vrnt y its => exact q its h.1
theorem inner_vs {prog : Program} {w : World} {p : Program} {loose : List Str} {mean : ExcName → Option Value} {mg mb : Str → Option Value} {dp un : Nat} {gd : Option (List Code)} {cn : Str} {cs : Scope} {a : Addr} {ccd : Value} {cl : List (Str × Addr)} {outer : List Env} {A₀ : Around} {base h₀ : Heap} {L : Addr} {m : Str → Option Value} {s : Shared} {Q E : Value → Shared → Prop} {news : List (Addr × Obj)}
    (B : Below A₀ base outer h₀) (F : Fr h₀ L s.heap m) (X : (Mine.kmk.heap_1 w.params).In h₀) (N : News h₀ L s.heap news) (T : Top p loose mean mg mb h₀) (hk : cs.kind = .function) {v st x : Value} {sh : Shp} {k : Int ⊕ Str} {n n' : List (Addr × Obj)} (hv : VS n v sh) (hn : ∀ p ∈ n, p ∈ news) (hok : sh.ok w n') (hn' : ∀ p ∈ n', p ∈ news) (hst : StepOk st k) (hx : valueAt sh.kvs k = some x) (hdp : dp + 2 < recursionLimit) (hun : un + 80 < cLine)
    (ret : ∀ h' tk', Fr h₀ L h' m → News h₀ L h' news → Q x { s with heap := h', toks := tk' }) :
    wpAny (model prog w) (ktrTop dp un gd cn cs L a ccd cl outer) (call (.ref 112) [v, st]) Q E s := by
  have nn := (hv.mono hn).nn (hok.mono hn')
  cases hv with
  | box a => obtain ⟨rfl, -, ts, rfl⟩ := key_box hst hx; exact inner_ok_box B F X N T hk (hn _ a) nn hdp hun ret
  | flds a b => obtain ⟨i, ti, rfl, -, hl, e⟩ := key_idx hst hx; exact inner_ok_flds (ty := 0) (y := 0) B F X N T hk (hn _ a) (hn _ b) hok.1 nn (Int.natCast_nonneg _) (by omega) e hdp hun ret
  | vrnt a b => obtain ⟨i, ti, rfl, -, hl, e⟩ := key_idx hst hx; exact inner_ok_vrnt B F X N T hk (hn _ a) (hn _ b) hok.1 nn (Int.natCast_nonneg _) (by omega) e hdp hun ret
theorem snd1 {h₀ h : Heap} {L : Addr} {a : Addr × Obj} {l : List (Addr × Obj)} (N : News h₀ L h (a :: l)) : News h₀ L h (l ++ [a]) := fun p hp => N p (by
  rcases List.mem_append.mp hp with hp | hp
  · exact .tail _ hp
  · rw [List.mem_singleton.mp hp]; exact .head _)
theorem snd2 {h₀ h : Heap} {L : Addr} {a b : Addr × Obj} {l : List (Addr × Obj)} (N : News h₀ L h (a :: b :: l)) : News h₀ L h (l ++ [a, b]) := fun p hp => N p (by
  rcases List.mem_append.mp hp with hp | hp
  · exact .tail _ (.tail _ hp)
  · rcases List.mem_cons.mp hp with rfl | hp
    · exact .head _
    · rw [List.mem_singleton.mp hp]; exact .tail _ (.head _))
theorem with_vs {prog : Program} {w : World} {p : Program} {loose : List Str} {mean : ExcName → Option Value} {mg mb : Str → Option Value} {dp un : Nat} {gd : Option (List Code)} {cn : Str} {cs : Scope} {a : Addr} {ccd : Value} {cl : List (Str × Addr)} {outer : List Env} {A₀ : Around} {base h₀ : Heap} {L : Addr} {m : Str → Option Value} {s : Shared} {Q E : Value → Shared → Prop} {news : List (Addr × Obj)}
    (B : Below A₀ base outer h₀) (F : Fr h₀ L s.heap m) (X : (Mine.kmk.heap_1 w.params).In h₀) (N : News h₀ L s.heap news) (T : Top p loose mean mg mb h₀) (hk : cs.kind = .function) {v st x z : Value} {sh : Shp} {k : Int ⊕ Str} {n n' : List (Addr × Obj)} (hv : VS n v sh) (hn : ∀ p ∈ n, p ∈ news) (hok : sh.ok w n') (hn' : ∀ p ∈ n', p ∈ news) (hst : StepOk st k) (hx : valueAt sh.kvs k = some x) (hdp : dp + 2 < recursionLimit) (hun : un + 80 < cLine)
    (ret : ∀ a tl h' tk', Fr h₀ L h' m → News h₀ L h' (news ++ tl) → (∀ p ∈ tl, AllLt p.1 news) → VS tl (.ref a) (sh.set k z) → Q (.ref a) { s with heap := h', toks := tk' }) :
    wpAny (model prog w) (ktrTop dp un gd cn cs L a ccd cl outer) (call (.ref 119) [v, st, z]) Q E s := by
  cases hv with
  | box a =>
    obtain ⟨rfl, -, ts, rfl⟩ := key_box hst hx
    exact with_box B F X N T hk (hn _ a) hdp hun fun T t' k' h' tk' F' N' l1 => ret T [_] h' tk' F' (snd1 N') (lt_cons l1 lt_nil) (.box (.head _))
  | flds a b =>
    obtain ⟨i, ti, rfl, rfl, hl, e⟩ := key_idx hst hx
    exact with_flds B F X N T hk (hn _ a) (hn _ b) hok.1 hl hdp hun fun T t' p' k' kp' h' tk' F' N' l1 l2 => ret T [_, _] h' tk' F' (snd2 N') (lt_cons l1 (lt_cons l2 lt_nil)) (.flds (.head _) (.tail _ (.head _)))
  | vrnt a b =>
    obtain ⟨i, ti, rfl, rfl, hl, e⟩ := key_idx hst hx
    exact with_vrnt B F X N T hk (hn _ a) (hn _ b) hok.1 hl hdp hun fun T t' p' k' kp' h' tk' F' N' l1 l2 => ret T [_, _] h' tk' F' (snd2 N') (lt_cons l1 (lt_cons l2 lt_nil)) (.vrnt (.head _) (.tail _ (.head _)))
section
variable {prog : Program} {w : World} {A : Around} {E : Value → Shared → Prop} {s : Shared} {h₀ : Heap} {L : Addr} {m : Str → Option Value} {news : List (Addr × Obj)}
theorem ne_vs {x y : Value} {sh : Shp} {n : List (Addr × Obj)} {Q : Value → Shared → Prop} (F : Fr h₀ L s.heap m) (N : News h₀ L s.heap news) (X : (Mine.kmk.heap_1 w.params).In h₀) (hx : VS news x sh) (hy : VS news y sh) (hok : sh.ok w n) (hs : ∀ p ∈ n, p ∈ news) (hu : A.units + 64 < cLine) (hq : Q (.bool false) s) : wpAny (model prog w) A (compareOp .NotEq x y) Q E s := by
  cases hx with
  | box a => cases hy with | box b => exact ne_box F N X a b hok hs hu hq
  | flds a b => cases hy with | flds c d => exact ne_flds F N X a b c d rfl hok.2 hs hu hq
  | vrnt a b => cases hy with | vrnt c d => exact ne_vrnt F N X a b c d rfl hok.2 hs hu hq
theorem slice_vs {value slice : PySem.Expr} {t : Addr} {sh : Shp} {u : Tok} {n : List (Addr × Obj)} {Q : Value → Shared → Prop} (F : Fr h₀ L s.heap m) (N : News h₀ L s.heap news) (hv : VS n (.ref t) sh) (hn : ∀ p ∈ n, p ∈ news)
    (h : ∀ D oD h', Fr h₀ L h' m → News h₀ L h' ((D, oD) :: news) → AllLt D news → Rd w [(D, oD)] (.ref D) sh.hd → Q (.ref D) { s with heap := h' })
    (hs : subscripted slice false (.ref t) (.ref s.heap.objs.size) = operate [.ref s.heap.objs.size, .ref t] (getItem (.ref t) (.ref s.heap.objs.size)) := by with_unfolding_all rfl)
    (hg : ∀ r, letTemporaryGo value (.ref t) r = pure () := by intro _; with_unfolding_all rfl) :
    wpAny (model prog w) A (subscriptTail value slice (.ref t) (.ref s.heap.objs.size)) Q E { s with heap := s.heap.push { cls := .type "slice", data := .fields #[.none, .int (-1) u, .none] } } := by
  cases hv with
  | box a => exact slice_neg2 F N (hn _ a) (fun D h' F' N' l => h D _ h' F' N' (allLt_of l) (Rd.tuple (.head _) rfl rfl (.cons .str .nil))) hs hg
  | flds a b => exact slice_neg2 F N (hn _ a) (fun D h' F' N' l => h D _ h' F' N' (allLt_of l) (Rd.tuple (.head _) rfl rfl (.cons .str .nil))) hs hg
  | vrnt a b => exact slice_neg3 F N (hn _ a) (fun D h' F' N' l => h D _ h' F' N' (allLt_of l) (Rd.tuple (.head _) rfl rfl (.cons .str (.cons .int .nil)))) hs hg
theorem ne_hd {x y : Value} {sh sh' : Shp} {n n' : List (Addr × Obj)} {Q : Value → Shared → Prop} (F : Fr h₀ L s.heap m) (N : News h₀ L s.heap news) (X : (Mine.kmk.heap_1 w.params).In h₀) (hx : Rd w n x sh.hd) (hy : Rd w n' y sh'.hd) (e : sh.hd = sh'.hd) (hs : ∀ p ∈ n, p ∈ news) (hs' : ∀ p ∈ n', p ∈ news) (hu : A.units + 64 < cLine) (hq : Q (.bool false) s) : wpAny (model prog w) A (compareOp .NotEq x y) Q E s := by
  rw [← e] at hy
  refine ne_sh F N X (hx.mono hs) (hy.mono hs') ?_ ?_ hu hq
  · cases sh <;> (simp only [Shp.hd, PyData.canLay0, PyData.canLayAll0, Bool.and_true]; try decide +kernel)
  · cases sh <;> simp only [Shp.hd, PyData.depth, PyData.depthAll] <;> omega
theorem eq_step {x y : Value} {k k' : Int ⊕ Str} {Q : Value → Shared → Prop} (hx : StepOk x k) (hy : StepOk y k') (hq : k = k' → Q (.bool true) s) (hq' : k ≠ k' → Q (.bool false) s) (hu : A.units + 64 < cLine) : wpAny (model prog w) A (compareOp .Eq x y) Q E s := by
  rcases hx with ⟨i, t, rfl, rfl⟩ | ⟨t, rfl, rfl⟩ <;> rcases hy with ⟨j, u, rfl, rfl⟩ | ⟨u, rfl, rfl⟩
  · refine eq_dataH (.int i t) (.int j u) rfl rfl hu ?_
    by_cases e : i = j
    · subst e; rw [show PyData.eqv (.int i) (.int i) = true by simp [PyData.eqv]]; exact hq rfl
    · rw [show PyData.eqv (.int i) (.int j) = false by simp [PyData.eqv, e]]; exact hq' fun z => e (Sum.inl.inj z)
  · refine eq_dataH (.int i t) (.str _ u) rfl (by decide +kernel) hu ?_
    rw [show PyData.eqv (.int i) (.str (Str.ofString "*")) = false by simp [PyData.eqv]]; exact hq' fun z => by cases z
  · refine eq_dataH (.str _ t) (.int j u) (by decide +kernel) rfl hu ?_
    rw [show PyData.eqv (.str (Str.ofString "*")) (.int j) = false by simp [PyData.eqv]]; exact hq' fun z => by cases z
  · refine eq_dataH (.str _ t) (.str _ u) (by decide +kernel) (by decide +kernel) hu ?_
    rw [show PyData.eqv (.str (Str.ofString "*")) (.str (Str.ofString "*")) = true by decide +kernel]; exact hq rfl
end
end Mine
end
section
namespace Mine
open PySem.Spec PySem.Calls
section
variable {M : Model} {prog : Program} {w : World} {A : Around} {E : Value → Shared → Prop} {s : Shared} {h₀ : Heap} {L a c P : Addr} {m mg mb : Str → Option Value} {cn : Str} {cs : Scope} {ccd : Value} {cl : List (Str × Addr)} {news : List (Addr × Obj)} {g : Obj → List (Addr × Obj)}
  {p : Program} {loose : List Str} {mean : ExcName → Option Value} {name qual : Str} {params : Arguments} {body : PySem.Expr} {scope : Scope} {pos : Pos} {firstLine : Nat} {clos : List (Str × Addr)}
theorem kla_tab {Q : Value → Shared → Prop} {ot : Obj} {tl : List (Addr × Obj)} (F : Fr h₀ L s.heap m) (N : News h₀ L s.heap news) (T : Top p loose mean mg mb h₀) (C : CodeHd h₀ c P) (hcd : ccd = .ref c) (U : UpdF P ot news g) (hT : TabS pos.line pos.col qual ot tl) (htl : ∀ q ∈ tl, q ∈ news)
    (hcl : closureFor scope (envX cn cs L a ccd cl) = pure clos)
    (h : ∀ f c' oc vs t ctv h' tk, Fr h₀ L h' m →
      News h₀ L h' ((f, kla_obj name qual params body scope clos ((mg "__name__").getD .none) c' ctv) :: (c', oc) :: g (tabObj #[rawInt pos.line, rawInt pos.col, .ref c'])) →
      oc.data = .fields vs → vs[1]? = some (.str qual t) → (tl = [(c', oc)] ∨ AllLt c' news) → AllLt f news → Q (.ref f) { s with heap := h', toks := tk }) :
    wpAny M A (makeFunction name qual params (.expr body) scope (envX cn cs L a ccd cl) [] [] [] pos firstLine) Q E s := by
  cases hT with
  | empty =>
    refine kla_nest F N T C hcd U trivial rfl hcl fun f c' oc vs t ctv h' tk F' N' d1 d2 l1 l2 => h f c' oc vs t ctv h' tk F' ?_ d1 d2 (.inr (allLt_of l1)) (allLt_of fun q hq => Nat.lt_trans (l1 q hq) l2)
    simpa using N'
  | @full c' oc vs t e1 e2 =>
    obtain ⟨own, rest, rfl, hgr, h1, h2⟩ := U.split
    refine kla_hit (c' := c') F N T C hcd (List.mem_append_right _ (.head _)) (by simp [TriplesOk, rawInt]) (by simp [codeAmong, rawInt]) hcl fun f ctv h' tk F' N' l => h f c' oc vs t ctv h' tk F' (fun q hq => ?_) e1 e2 (.inl rfl) (allLt_of l)
    rw [hgr] at hq
    rcases List.mem_cons.mp hq with rfl | hq
    · exact N' _ (.head _)
    · rcases List.mem_cons.mp hq with rfl | hq
      · exact N' _ (.tail _ (htl _ (.head _)))
      · exact N' _ (.tail _ hq)
end
noncomputable def kindOf (b : Bool) : Str := if b then Str.ofString "uninitialised" else Str.ofString "bounds"
noncomputable def NB (w : World) (n : List (Addr × Obj)) (v : Value) (kvs : List ((Int ⊕ Str) × Value)) (b : Bool) : Prop := (b = true ∧ UV v) ∨ (b = false ∧ VB w n v kvs)
theorem inner_badN {prog : Program} {w : World} {p : Program} {loose : List Str} {mean : ExcName → Option Value} {mg mb : Str → Option Value} {dp un : Nat} {gd : Option (List Code)} {cn : Str} {cs : Scope} {a : Addr} {ccd : Value} {cl : List (Str × Addr)} {outer : List Env} {A₀ : Around} {base h₀ : Heap} {L : Addr} {m : Str → Option Value} {s : Shared} {Q E : Value → Shared → Prop} {news : List (Addr × Obj)}
    (B : Below A₀ base outer h₀) (F : Fr h₀ L s.heap m) (X : (Mine.kmk.heap_1 w.params).In h₀) (N : News h₀ L s.heap news) (T : Top p loose mean mg mb h₀) (hk : cs.kind = .function) (hg : s.gens = #[]) (hb : base.get? 0 = some (bnObj w.params)) (XB : (Mine.kmk.heap_1 w.params).In base) {v st : Value} {k : Int ⊕ Str} {kvs : List ((Int ⊕ Str) × Value)} {b : Bool} {n : List (Addr × Obj)} (hv : NB w n v kvs b) (hn : ∀ p ∈ n, p ∈ news) (hst : StepOk st k) (hno : valueAt kvs k = none)
    (ret : ∀ e dd od tk G h' tk', RsS base G (envX cn cs L a ccd cl :: outer) e (.ref 59) dd ((dd, od) :: news) h' → G.UpToSlots h' → lookIn "kind" od = some (some (.str (kindOf b) tk)) → Fr h₀ L G m → E (.ref e) { s with heap := h', toks := tk' }) :
    wpAny (model prog w) (ktrTop 305 16 gd cn cs L a ccd cl outer) (call (.ref 112) [v, st]) Q E s := by
  rcases hv with ⟨rfl, hu⟩ | ⟨rfl, hB⟩
  · exact inner_badU (dp := dp) (un := un) B F X N T hk hg hb XB hu ret
  · exact inner_badB (dp := dp) (un := un) B F X N T hk hg hb XB (hB.mono hn) hst hno ret
end Mine
end
section
namespace Mine
open PySem.Spec PySem.Calls
local macro_rules | `(tactic| ked_read) => `(tactic| first | exact Rd.int | exact Rd.str | exact Rd.bool | exact Rd.nothing | exact Rd.none | with_reducible assumption | (refine' Rd.tuple ?hm ?hc ?hd ?b; (case hm => k_mem); (case hc => rfl); (case hd => rfl); (case b => ked_reads)) | (refine' Rd.list ?hm ?hc ?hd ?b; (case hm => k_mem); (case hc => rfl); (case hd => rfl); (case b => ked_reads)))
local macro_rules | `(tactic| ked_reads) => `(tactic| first | exact RdAll.nil | (refine' RdAll.cons ?a ?b; (case a => ked_read); (case b => ked_reads)) | with_reducible assumption)
local macro_rules | `(tactic| walk_at "my:mem") => `(tactic| first | exact List.Mem.head _ | (refine List.Mem.tail _ ?_; walk_at "my:mem") | (refine List.mem_append_right _ ?_; walk_at "my:mem"))
local macro_rules | `(tactic| walk_at "my:rgs") => `(tactic| first | exact RGs.nil | exact RGs.cons (by walk_at "my:rg") (by walk_at "my:rgs"))
local macro_rules | `(tactic| walk_at "my:altS") => `(tactic| first | with_reducible exact alt0 | with_reducible exact alt1 | with_reducible exact alt2 | with_reducible exact alt3 | (with_reducible refine alt_skip ?_; walk_at "my:altS"))
local macro_rules | `(tactic| walk_at "my:altL") => `(tactic| first | with_reducible exact alt0L | with_reducible exact alt1L | with_reducible exact alt2L | with_reducible exact alt3L | (with_reducible refine alt_skipL ?_; walk_at "my:altL"))
local macro_rules | `(tactic| walk_at "my:lt1") => `(tactic| first
  | (with_reducible refine lt_cons ?_ ?_; (walk_at "my:alt"); (walk_at "my:lt1"))
  | (with_reducible exact lt_nil)
  | (with_reducible refine lt_app ?_ ?_; (intro p hp; walk_at "my:altM"); (walk_at "my:lt1")))

theorem eq_two {prog : Program} {w : World} {A : Around} {E : Value → Shared → Prop} {s : Shared} {h₀ : Heap} {L : Addr} {m : Str → Option Value} {news : List (Addr × Obj)} {x y : Addr} {n n' : Nat} {t u t' u' : Tok} {a k : Str} {Q : Value → Shared → Prop} (F : Fr h₀ L s.heap m) (N : News h₀ L s.heap news) (X : (Mine.kmk.heap_1 w.params).In h₀) (h1 : (x, tup #[.str a t, .str k u] n) ∈ news) (h2 : (y, tup #[.str a t', .str k u'] n') ∈ news)
    (ha : PyData.canLay0 (.tuple [.str a, .str k]) = true) (hu : A.units + 64 < cLine) (hq : Q (.bool true) s) : wpAny (model prog w) A (compareOp .Eq (.ref x) (.ref y)) Q E s := by
  have X' := X.keeps F.keep
  have R1 : Rd w news (.ref x) (.tuple [.str a, .str k]) := Rd.tuple h1 rfl rfl (.cons .str (.cons .str .nil))
  have R2 : Rd w news (.ref y) (.tuple [.str a, .str k]) := Rd.tuple h2 rfl rfl (.cons .str (.cons .str .nil))
  obtain ⟨_, a1⟩ := R1 _ X' fun p hp => (N p hp).1
  obtain ⟨_, a2⟩ := R2 _ X' fun p hp => (N p hp).1
  exact eq_dataH a1 a2 (shaped_of ha (by simp only [PyData.depth, PyData.depthAll]; omega)) (shaped_of ha (by simp only [PyData.depth, PyData.depthAll]; omega)) hu (by rw [PySem.SeqAt.eqv_refl _ ha]; exact hq)
theorem kind_lay (b : Bool) : PyData.canLay0 (.tuple [.str (Str.ofString "fault"), .str (kindOf b)]) = true := by cases b <;> decide +kernel
noncomputable def BoolR (s : Shared) (P : Bool → Prop) (v : Value) (s' : Shared) : Prop := ∃ b tk, v = .bool b ∧ s' = { s with toks := tk } ∧ P b
theorem eval_bool {M : Model} {A : Around} {t : Sem Value} {Q E : Value → Shared → Prop} {s : Shared} (P : Bool → Prop) (h : wpAny M A t (BoolR s P) E s) (k : ∀ b tk, P b → Q (.bool b) { s with toks := tk }) : wpAny M A t Q E s :=
  wpAny_mono h (fun v s' ⟨b, tk, e1, e2, hp⟩ => by subst e1 e2; exact k b tk hp) fun _ _ z => z
noncomputable def StrR (s : Shared) (K : Str) (v : Value) (s' : Shared) : Prop := ∃ t tk, v = .str K t ∧ s' = { s with toks := tk }
theorem eval_str {M : Model} {A : Around} {t : Sem Value} {Q E : Value → Shared → Prop} {s : Shared} (K : Str) (h : wpAny M A t (StrR s K) E s) (k : ∀ t tk, Q (.str K t) { s with toks := tk }) : wpAny M A t Q E s :=
  wpAny_mono h (fun v s' ⟨t, tk, e1, e2⟩ => by subst e1 e2; exact k t tk) fun _ _ z => z
set_option maxRecDepth 100000 in
set_option maxHeartbeats 200000000 in
theorem step_ok {prog : Program} {w : World} {p : Program} {loose : List Str} {mean : ExcName → Option Value} {mg mb : Str → Option Value} {gd : Option (List Code)} {cn : Str} {cs : Scope} {a : Addr} {ccd : Value} {cl : List (Str × Addr)} {A₀ : Around} {base h₀ : Heap} {L : Addr} {m : Str → Option Value} {s : Shared} {Q E : Value → Shared → Prop} 
    (B : Below A₀ base [] h₀) (F : Fr h₀ L s.heap m) (X : (Mine.kmk.heap_1 w.params).In h₀) (T : Top p loose mean mg mb h₀) (hk : cs.kind = .function) {src : Addr} {o : Obj} {ot : Obj} {tl rst : List (Addr × Obj)} (ho : SrcOk o) (N : News h₀ L s.heap ((src, o) :: (239, ot) :: (tl ++ rst))) (hr : ∀ p ∈ tl ++ rst, p.1 ≠ src) (hrt : ∀ p ∈ tl ++ rst, p.1 ≠ 239) (hsP : src ≠ 239) (hPs : 239 ≠ src) (hTab : TabS 174 25 ((Str.ofString "_law_step_right" ++ Str.ofString ".<locals>.") ++ Str.ofString "<lambda>") ot tl) (hCd : CodeHd base 241 239)
    (hg : s.gens = #[]) (hb : base.get? 0 = some (bnObj w.params)) (XB : (Mine.kmk.heap_1 w.params).In base) (TB : Top p loose mean mg mb base)
    (ret : ∀ o' ot' tl' h' tk', News h₀ L h' ((src, o') :: (239, ot') :: (tl' ++ rst)) → TabS 174 25 ((Str.ofString "_law_step_right" ++ Str.ofString ".<locals>.") ++ Str.ofString "<lambda>") ot' tl' → (tl' = tl ∨ ∀ q ∈ tl', AllLt q.1 ((src, o) :: (239, ot) :: (tl ++ rst))) → SrcOk o' → Fr h₀ L h' m → Q (.bool true) { s with heap := h', toks := tk' }) :
    wpAny (model prog w) (ktrTop 302 7 gd cn cs L a ccd cl []) (call (.ref 242) [.ref src]) Q E s := by
  refine wpAny_call ?_
  k_dflt (refine' code_defSC0 ?k1 ?k2 ?k3 ?k4 ?k5 ?kA ?kF ?kK ?k6 ?k7 ?k8 ?k9 ?kB ?kD ?_ ?c2 ?c3 ?c4; (case kA => exact rfl); (case kF => exact rfl); (case kK => assumption); (case k1 => k_asm); (case k2 => k_asm); (case k3 => k_asm); (case k4 => k_asm); (case k5 => k_asm); (case k6 => k_is); (case k7 => k_is); (case k8 => ktr_room); (case k9 => exact BindsTo.of_eq rfl); (case kB => exact rfl); (case kD => decide +kernel); (case c2 => exact rfl); (case c3 => exact rfl); (case c4 => exact rfl); k_whole; intro g' L' h' tk' cells' FG' F' N' Y' B' X' T' l1 D'; (try k_lt l1); k_cells Y'; (try simp only [List.cons_append, List.nil_append] at N'); (try dsimp only); (try k_fold))
  clear F N T
  (repeat' (first | (k_unfold; (try dsimp only)) | (k_end; wrow_close) | ((with_reducible show wpAny _ _ (compareOp CmpOp.NotIn _ _) _ _ _); (k_dflt (refine notin_split (by k_asm) (by lcg_src) (by with_reducible assumption) (by with_reducible assumption) (by with_reducible assumption) ?h0 ?h1); (case' h0 => intro hno; refine hold ?_); (case' h1 => intro xS hin; refine hold ?_))) | (((with_reducible show wpAny _ _ (call (Value.ref 218) [Value.ref _, Value.ref _]) _ _ _); k_dflt (refine' one_ok ?B ?F ?X ?N ?T ?hk ?U ?ho ?hm ?hne ?h1 ?h2 ?hd ?hu ?_; (case B => k_asm); (case F => k_asm); (case X => k_asm); (case N => k_asm); (case T => k_asm); (case hk => first | exact rfl | assumption); (case U => k_updF); (case ho => assumption); (case hm => lcg_src); (case hne => k_ne); (case h1 => simp only [List.size_toArray, List.length_cons, List.length_nil]; omega); (case h2 => simp only [List.size_toArray, List.length_cons, List.length_nil]; omega); (case hd => ktr_room); (case hu => ktr_units)); intro vO oO hO tkO hvO hoO F' N'; (obtain ⟨kS, hS⟩ := step_of hvO); clear hvO; (try dsimp only at N'); (try k_sweep))) | (((with_reducible show wpAny _ _ (call (Value.ref 237) [Value.ref _]) _ _ _); k_dflt (refine' value_ok ?B ?F ?X ?N ?T ?hk ?U ?ho ?hd ?hu ?_; (case B => k_asm); (case F => k_asm); (case X => k_asm); (case N => k_asm); (case T => k_asm); (case hk => first | exact rfl | assumption); (case U => k_updF); (case ho => assumption); (case hd => ktr_room); (case hu => ktr_units)); intro tV tTV vV dV oDV kvsV tlV oV hV tkV F' N' hmT hVF hmD hDV hneV hLtV hoV; (replace N' := news_app2 N' hmT hmD); (have hT1 := hLtV _ hmT); (have hD1 := hLtV _ hmD); (try dsimp only at hT1 hD1); (try dsimp only at N'); (try simp only [List.cons_append, List.nil_append] at N'); (try k_sweep))) | (((with_reducible show wpAny _ _ (call (Value.ref 232) [Value.ref _]) _ _ _); k_dflt (refine' leaf_ok ?B ?F ?X ?N ?T ?hk ?U ?ho ?hd ?hu ?_; (case B => k_asm); (case F => k_asm); (case X => k_asm); (case N => k_asm); (case T => k_asm); (case hk => first | exact rfl | assumption); (case U => k_updF); (case ho => assumption); (case hd => ktr_room); (case hu => ktr_units)); intro vL dL tlL oL hL tkL hRd hGd hLt hoL F' N'; (try dsimp only at N'); (try simp only [List.cons_append, List.nil_append] at N'); (try k_sweep))) | ((with_reducible show wpAny _ _ (newList _) _ _ _); (k_dflt (refine list_o (by k_asm) (by k_asm) (by size_fits) ?_); intro Dw7 hw7 ow7 Fw7 Nw7 lw7)) | ((with_reducible show wpAny _ _ (newTuple _) _ _ _); (k_dflt (refine tuple_o (by k_asm) (by k_asm) (by size_fits) ?_); intro Dw7 hw7 ow7 Fw7 Nw7 lw7)) | ((with_reducible show wpAny _ _ (eval (PySem.Expr.Call (PySem.Expr.Name _ _) (_ :: _) [] _) _) _ _ _); (k_dflt (refine call_svs (by rfl) (by first | exact rfl | assumption) (by k_asm) (by k_asm) (by k_asm) (by k_is) (by k_is) (by rfl) ?_))) | ((with_reducible show wpAny _ _ (spliced (backTo _ (starEach (_ :: _) _))) _ _ _); (k_dflt (refine spl_g (by rfl) (by first | exact rfl | assumption) (by k_asm) (by rfl) ?_))) | ((with_reducible show wpAny _ _ (callWith _ (Value.ref _) _ _ _) _ _ _); (k_here; k_dflt (first | refine' callWith_K ?k1 ?k2 ?_; (case k1 => k_asm); (case k2 => k_is); k_whole | refine' callWith_K0 ?k1 ?k2 ?_; (case k1 => k_in); (case k2 => k_is); k_whole); (try dsimp only [List.nil_append, List.append_nil]))) | ((with_reducible show wpAny _ _ (execs (_ :: _) _) _ _ _); ((with_reducible refine Mine.gen_tok ?_); intro tk; (with_reducible refine wpAny_execs_cons ?_); (try dsimp only))) | walk1 | (dsimp only; walk1) | (leave1; walk_say "STEP leave1"; try dsimp only) | fail "no step"))
  case h0 =>
    unfold Hold
    (repeat' (first | (k_unfold; (try dsimp only)) | (k_end; wrow_close) | ((with_reducible show wpAny _ _ (eval (PySem.Expr.BoolOp _ _ _) _) _ _ _); refine hold ?_) | ((with_reducible show wpAny _ _ (execs (_ :: _) _) _ _ _); ((with_reducible refine Mine.gen_tok ?_); intro tk; (with_reducible refine wpAny_execs_cons ?_); (try dsimp only))) | walk1 | (dsimp only; walk1) | (leave1; walk_say "STEP leave1"; try dsimp only) | fail "no step"))
    unfold Hold
    refine eval_bool (NB w tlV vV kvsV) ?n1 ?n2
    case n1 =>
      rcases VF.split hVF with ⟨⟨i9, t9, e9⟩ | ⟨c9, e9⟩ | e9, -⟩ | hB
      · subst e9
        walk1
        (repeat' (first | (k_unfold; (try dsimp only)) | (k_end; wrow_close) | walk1 | (dsimp only; walk1) | (leave1; walk_say "STEP leave1"; try dsimp only) | fail "no step"))
        all_goals exact ⟨_, _, rfl, rfl, .inl ⟨rfl, .inl ⟨_, _, rfl⟩⟩⟩
      · subst e9
        walk1
        (repeat' (first | (k_unfold; (try dsimp only)) | (k_end; wrow_close) | walk1 | (dsimp only; walk1) | (leave1; walk_say "STEP leave1"; try dsimp only) | fail "no step"))
        all_goals exact ⟨_, _, rfl, rfl, .inl ⟨rfl, .inr (.inl ⟨_, rfl⟩)⟩⟩
      · subst e9
        walk1
        (repeat' (first | (k_unfold; (try dsimp only)) | (k_end; wrow_close) | ((with_reducible show wpAny _ _ (compareOp CmpOp.Eq (Value.ref _) (Value.ref _)) _ _ _); (k_dflt (first | refine eq_two (by k_asm) (by k_asm) (by k_asm) (by lcg_src) (by lcg_src) (kind_lay _) (by ktr_units) ?_ | refine nothing_eq (by k_asm) (by k_asm) (by ktr_units) ?_ | refine nothing_ne (by k_asm) (by k_asm) (by k_asm) (NN.mono (by with_reducible assumption) (by ((intro q hq; first | lcg_src | (rcases List.mem_append.mp hq with hq | hq <;> lcg_src) | (rw [List.mem_singleton.mp hq]; lcg_src))))) (by ktr_units) ?_))) | walk1 | (dsimp only; walk1) | (leave1; walk_say "STEP leave1"; try dsimp only) | fail "no step"))
        all_goals exact ⟨_, _, rfl, rfl, .inl ⟨rfl, .inr (.inr rfl)⟩⟩
      · obtain ⟨x9, arr9, k9, e9, hmx9, hnn9, -⟩ := VB.nn hB
        subst e9
        walk1
        (repeat' (first | (k_unfold; (try dsimp only)) | (k_end; wrow_close) | ((with_reducible show wpAny _ _ (call (Value.builtin "isinstance") [_, _]) _ _ _); (k_dflt (refine isi_tup (by k_asm) (by lcg_src) ?_))) | ((with_reducible show wpAny _ _ (compareOp CmpOp.Eq (Value.ref _) (Value.ref _)) _ _ _); (k_dflt (first | refine eq_two (by k_asm) (by k_asm) (by k_asm) (by lcg_src) (by lcg_src) (kind_lay _) (by ktr_units) ?_ | refine nothing_eq (by k_asm) (by k_asm) (by ktr_units) ?_ | refine nothing_ne (by k_asm) (by k_asm) (by k_asm) (NN.mono (by with_reducible assumption) (by ((intro q hq; first | lcg_src | (rcases List.mem_append.mp hq with hq | hq <;> lcg_src) | (rw [List.mem_singleton.mp hq]; lcg_src))))) (by ktr_units) ?_))) | walk1 | (dsimp only; walk1) | (leave1; walk_say "STEP leave1"; try dsimp only) | fail "no step"))
        all_goals exact ⟨_, _, rfl, rfl, .inr ⟨rfl, hB⟩⟩
    case n2 =>
      intro b9 tk9 hNB
      (repeat' (first | (k_unfold; (try dsimp only)) | (k_end; wrow_close) | (((with_reducible show wpAny _ _ (call (Value.ref 225) [Value.ref _]) _ _ _); refine hold ?_)) | ((with_reducible show wpAny _ _ (eval (PySem.Expr.Lambda _ _ _ _) _) _ _ _); (k_dflt (refine' kla_eval ?d0 ?_; (case d0 => exact rfl)); k_dflt (refine' kla_tab ?F ?N ?T ?C rfl ?U (by exact hTab) ?tl rfl ?_; (case F => k_asm); (case N => k_asm); (case T => k_asm); (case C => kn_code); (case U => k_updF); (case tl => ((intro q hq; first | lcg_src | (rcases List.mem_append.mp hq with hq | hq <;> lcg_src) | (rw [List.mem_singleton.mp hq]; lcg_src))))); intro f' c' oc' vs' t' ct' h' tk' F' N' d1' d2' hfr l2; (try dsimp only at N'))) | ((with_reducible show wpAny _ _ (storeName _ _ _) _ _ _); (k_dflt (refine store_o (by k_asm) (by k_asm) ?_ (by first | exact rfl | assumption) (by rfl)); intro hw7 mw7 Fw7 Nw7)) | ((with_reducible show wpAny _ _ (callWith _ (Value.ref _) _ _ _) _ _ _); (k_here; k_dflt (first | refine' callWith_K ?k1 ?k2 ?_; (case k1 => k_asm); (case k2 => k_is); k_whole | refine' callWith_K0 ?k1 ?k2 ?_; (case k1 => k_in); (case k2 => k_is); k_whole); (try dsimp only [List.nil_append, List.append_nil]))) | ((with_reducible show wpAny _ _ (execs (_ :: _) _) _ _ _); ((with_reducible refine Mine.gen_tok ?_); intro tk; (with_reducible refine wpAny_execs_cons ?_); (try dsimp only))) | walk1 | (dsimp only; walk1) | (leave1; walk_say "STEP leave1"; try dsimp only) | fail "no step"))
      unfold Hold
      k_dflt (refine told_ok (K := kindOf b9) (by k_asm) (by k_asm) (by k_asm) (by k_asm) (by k_asm) (by first | exact rfl | assumption) (by assumption) (by assumption) (by assumption) KtsTurn.refl (by assumption) (by assumption) (by lcg_src) ?hcall (by ktr_room) (by ktr_units) ?_)
      case hcall =>
        (k_dflt (unfold Raises; intro cn' cs' a' ccd' outer' A' base' g' L' m' s' E' B' F' X' N' T' hk' hg' hb' XB' hE'; k_dflt (refine wpAny_call ?_); k_dflt (refine' kla_code ?k1 ?k2 ?k3 ?k4 ?k5 ?kA ?kF ?kK ?k6 ?k7 ?k8 ?k9 ?kB ?_ ?c2 ?c3 ?c4 ?c5; (case kA => exact rfl); (case kF => exact rfl); (case kK => first | exact rfl | assumption); (case k1 => k_asm); (case k2 => k_asm); (case k3 => k_asm); (case k4 => k_asm); (case k5 => k_asm); (case k6 => lcg_src); (case k7 => exact codeRec_news (by k_asm) (by lcg_src) (by assumption) (by assumption)); (case k8 => k_room); (case k9 => exact rfl); (case c5 => decide); (case kB => exact locs rfl); (case c2 => exact rfl); (case c3 => exact rfl); (case c4 => exact rfl); k_whole; intro g' L' h' FG' F' N' B' X' T'; (try dsimp only); (try k_lift B'); (try k_fold))))
        (repeat' (first | (k_unfold; (try dsimp only)) | (k_end; wrow_close) | (((with_reducible show wpAny _ _ (call (Value.ref 112) [_, _]) _ _ _); k_dflt (refine inner_badN (dp := 0) (un := 0) (by k_asm) (by k_asm) (by k_asm) (by k_asm) (by k_asm) (by first | exact rfl | assumption) (by assumption) (by assumption) (by assumption) (by with_reducible assumption) (by ((intro q hq; first | lcg_src | (rcases List.mem_append.mp hq with hq | hq <;> lcg_src) | (rw [List.mem_singleton.mp hq]; lcg_src)))) (by with_reducible assumption) (by with_reducible assumption) ?_); intro e' dd' od' tke' G' h' tk' R' U' hK' FG')) | ((with_reducible show wpAny _ _ (leaving _ (Value.ref _)) _ _ _); (k_dflt (refine leave_onDS (by k_asm) (by rfl) (by with_reducible assumption) (by with_reducible assumption) (by with_reducible assumption) ?_); intro h' R' U')) | ((with_reducible show wpAny _ _ (callWith _ (Value.ref _) _ _ _) _ _ _); (k_here; k_dflt (first | refine' callWith_K ?k1 ?k2 ?_; (case k1 => k_asm); (case k2 => k_is); k_whole | refine' callWith_K0 ?k1 ?k2 ?_; (case k1 => k_in); (case k2 => k_is); k_whole); (try dsimp only [List.nil_append, List.append_nil]))) | walk1 | (dsimp only; walk1) | (leave1; walk_say "STEP leave1"; try dsimp only) | fail "no step"))
        k_dflt (exact hE' _ _ _ _ _ _ _ (by assumption) (by with_reducible assumption) (by with_reducible assumption) (by k_asm))
      intro T' tT' t1' t2' g' h' tk' hTn F' N' l1 B' X' P' D'
      (repeat' (first | (k_unfold; (try dsimp only)) | (k_end; wrow_close) | ((with_reducible show wpAny _ _ (eval (PySem.Expr.IfExp _ _ _ _) _) _ _ _); refine hold ?_) | walk1 | (dsimp only; walk1) | (leave1; walk_say "STEP leave1"; try dsimp only) | fail "no step"))
      unfold Hold
      refine eval_str (kindOf b9) ?i1 ?i2
      case i1 =>
        cases b9
        all_goals ((repeat' (first | (k_unfold; (try dsimp only)) | (k_end; wrow_close) | walk1 | (dsimp only; walk1) | (leave1; walk_say "STEP leave1"; try dsimp only) | fail "no step")))
        all_goals exact ⟨_, _, rfl, rfl⟩
      case i2 =>
        intro t9 tk9
        (repeat' (first | (k_unfold; (try dsimp only)) | (k_end; wrow_close) | ((with_reducible show wpAny _ _ (compareOp CmpOp.Eq (Value.ref _) (Value.ref _)) _ _ _); (k_dflt (first | refine eq_two (by k_asm) (by k_asm) (by k_asm) (by lcg_src) (by lcg_src) (kind_lay _) (by ktr_units) ?_ | refine nothing_eq (by k_asm) (by k_asm) (by ktr_units) ?_ | refine nothing_ne (by k_asm) (by k_asm) (by k_asm) (NN.mono (by with_reducible assumption) (by ((intro q hq; first | lcg_src | (rcases List.mem_append.mp hq with hq | hq <;> lcg_src) | (rw [List.mem_singleton.mp hq]; lcg_src))))) (by ktr_units) ?_))) | ((with_reducible show wpAny _ _ (newTuple _) _ _ _); (k_dflt (refine tuple_o (by k_asm) (by k_asm) (by size_fits) ?_); intro Dw7 hw7 ow7 Fw7 Nw7 lw7)) | walk1 | (dsimp only; walk1) | (leave1; walk_say "STEP leave1"; try dsimp only) | fail "no step"))
        refine ret _ _ [(c', oc')] _ _ (news_sub (by k_asm) fun q hq => ?_) (TabS.full d1' d2') (hfr.imp Eq.symm fun z q hq => ?_) (by with_reducible assumption) (by k_asm)
        · simp only [List.mem_cons, List.cons_append, List.nil_append] at hq
          rcases hq with rfl | rfl | rfl | hq <;> lcg_src
        · rw [List.mem_singleton.mp hq]
          exact allLt_src z (by lcg_src) (by intro p hp; rcases List.mem_cons.mp hp with rfl | hp <;> lcg_src)
  case h1 =>
    unfold Hold
    rcases VF.split hVF with ⟨-, e9⟩ | hB
    · exfalso; subst e9; exact absurd hin (by simp [valueAt])
    · obtain ⟨a9, sh9, e9, hvs9, hok9, ek9⟩ := VB.shp hB hS hin
      subst e9; subst ek9
      have hok9 : Shp.ok w tlV sh9 := hok9
      have hrg9 := Shp.rg hok9 hS hin
      have hLr : RG w (tlV ++ tlL) vL := Exists.intro dL ⟨ Rd.mono hRd (by intro q hq; lcg_src), hGd⟩
      have hokL := Shp.ok_set (k := kS) (Shp.ok.mono (n' := tlV ++ tlL) hok9 (by intro q hq; lcg_src)) hLr
      have hinL : valueAt (sh9.set kS vL).kvs kS = some vL := by rw [Shp.get_set hS hS hin hin, if_pos rfl]
      (repeat' (first | (k_unfold; (try dsimp only)) | (k_end; wrow_close) | ((with_reducible show wpAny _ _ (eval (PySem.Expr.ListComp _ _ _ _) _) _ _ _); (k_dflt (refine ListComp_K (by k_asm) (by rfl) (by decide) (by rfl) (by decide) (by rfl) ?_))) | ((with_reducible show SrcK _ _ _ _ _ _ _ _ _ _ _ _ _ _ _); refine hold ?_) | ((with_reducible show wpAny _ _ (subscriptTail (PySem.Expr.Name _ _) (PySem.Expr.Slice _ _ _ _) (Value.ref _) (Value.ref _)) _ _ _); (k_dflt (refine slice_vs (by k_asm) (by k_asm) (by with_reducible assumption) (by ((intro q hq; first | lcg_src | (rcases List.mem_append.mp hq with hq | hq <;> lcg_src) | (rw [List.mem_singleton.mp hq]; lcg_src)))) ?_); intro D' oD' h' F' N' l1 hRd')) | ((with_reducible show wpAny _ _ (compareOp CmpOp.NotEq (Value.ref _) (Value.ref _)) _ _ _); (k_dflt (first | refine ne_hd (by k_asm) (by k_asm) (by k_asm) (by with_reducible assumption) (by with_reducible assumption) (Shp.hd_set _ _ _) (by ((intro q hq; first | lcg_src | (rcases List.mem_append.mp hq with hq | hq <;> lcg_src) | (rw [List.mem_singleton.mp hq]; lcg_src)))) (by ((intro q hq; first | lcg_src | (rcases List.mem_append.mp hq with hq | hq <;> lcg_src) | (rw [List.mem_singleton.mp hq]; lcg_src)))) (by ktr_units) ?_ | refine ne_vs (by k_asm) (by k_asm) (by k_asm) (VS.mono (by with_reducible assumption) (by ((intro q hq; first | lcg_src | (rcases List.mem_append.mp hq with hq | hq <;> lcg_src) | (rw [List.mem_singleton.mp hq]; lcg_src))))) (VS.mono (by with_reducible assumption) (by ((intro q hq; first | lcg_src | (rcases List.mem_append.mp hq with hq | hq <;> lcg_src) | (rw [List.mem_singleton.mp hq]; lcg_src))))) (by with_reducible assumption) (by ((intro q hq; first | lcg_src | (rcases List.mem_append.mp hq with hq | hq <;> lcg_src) | (rw [List.mem_singleton.mp hq]; lcg_src)))) (by ktr_units) ?_))) | ((with_reducible show wpAny _ _ (compareOp CmpOp.NotEq _ _) _ _ _); (k_dflt (refine ne_rg (by k_asm) (by k_asm) (by k_asm) (by with_reducible assumption) (by ((intro q hq; first | lcg_src | (rcases List.mem_append.mp hq with hq | hq <;> lcg_src) | (rw [List.mem_singleton.mp hq]; lcg_src)))) (by ktr_units) ?_))) | (((with_reducible show wpAny _ _ (subscriptTail (PySem.Expr.Name _ _) (PySem.Expr.Name _ _) (Value.ref _) _) _ _ _); ((k_dflt (refine kda_item (knd := mix _ _) (by k_asm) (by lcg_src) (by with_reducible assumption) (StepOk.is (by with_reducible assumption)) (by with_reducible assumption) ?_))))) | (((with_reducible show wpAny _ _ (call (Value.ref 119) [_, _, _]) _ _ _); k_dflt (refine with_vs (by k_asm) (by k_asm) (by k_asm) (by k_asm) (by k_asm) (by first | exact rfl | assumption) (by with_reducible assumption) (by ((intro q hq; first | lcg_src | (rcases List.mem_append.mp hq with hq | hq <;> lcg_src) | (rw [List.mem_singleton.mp hq]; lcg_src)))) (by with_reducible assumption) (by ((intro q hq; first | lcg_src | (rcases List.mem_append.mp hq with hq | hq <;> lcg_src) | (rw [List.mem_singleton.mp hq]; lcg_src)))) (by with_reducible assumption) (by with_reducible assumption) (by ktr_room) (by ktr_units) ?_); intro aT' tlT' h' tk' F' N' lT' hvT'; (try simp only [List.cons_append, List.nil_append] at N'); (try rw [Shp.set_back hS hin] at hvT'))) | (((with_reducible show wpAny _ _ (call (Value.ref 112) [_, _]) _ _ _); k_dflt (refine inner_vs (by k_asm) (by k_asm) (by k_asm) (by k_asm) (by k_asm) (by first | exact rfl | assumption) (by with_reducible assumption) (by ((intro q hq; first | lcg_src | (rcases List.mem_append.mp hq with hq | hq <;> lcg_src) | (rw [List.mem_singleton.mp hq]; lcg_src)))) (by with_reducible assumption) (by ((intro q hq; first | lcg_src | (rcases List.mem_append.mp hq with hq | hq <;> lcg_src) | (rw [List.mem_singleton.mp hq]; lcg_src)))) (by with_reducible assumption) (by with_reducible assumption) (by ktr_room) (by ktr_units) ?_); intro h' tk' F' N')) | ((with_reducible show wpAny _ _ (callWith _ (Value.ref _) _ _ _) _ _ _); (k_here; k_dflt (first | refine' callWith_K ?k1 ?k2 ?_; (case k1 => k_asm); (case k2 => k_is); k_whole | refine' callWith_K0 ?k1 ?k2 ?_; (case k1 => k_in); (case k2 => k_is); k_whole); (try dsimp only [List.nil_append, List.append_nil]))) | ((with_reducible show wpAny _ _ (execs [] _) _ _ _); ((with_reducible refine Mine.gen_tok ?_); intro tk; (with_reducible refine wpAny_execs_nil ?_); (try dsimp only))) | ((with_reducible show wpAny _ _ (execs (_ :: _) _) _ _ _); ((with_reducible refine Mine.gen_tok ?_); intro tk; (with_reducible refine wpAny_execs_cons ?_); (try dsimp only))) | walk1 | (dsimp only; walk1) | (leave1; walk_say "STEP leave1"; try dsimp only) | fail "no step"))
      unfold Hold
      k_dflt (refine srcK_none (by rfl) (by k_asm) (by k_asm) (by lcg_src) (by with_reducible assumption) (by with_reducible assumption) (Shp.len hok9) ?ht ?_)
      case ht =>
        intro g'
        unfold TurnNo
        intro i' v' I' oI' C' oC' D' m2' h' tk' E' hP' hC' hx' F' N'
        obtain ⟨k9, x9, hst9, hx9⟩ := keyP_step hP'
        have hrx9 := Shp.rg hok9 hst9 hx9
        have hget9 := Shp.get_set (z := vL) hS hst9 hin hx9
        by_cases hke : k9 = kS
        · subst hke
          rw [if_pos rfl] at hget9
          (repeat' (first | (k_unfold; (try dsimp only)) | (k_end; wrow_close) | ((with_reducible show wpAny _ _ (compareOp CmpOp.NotEq _ _) _ _ _); (k_dflt (refine ne_rg (by k_asm) (by k_asm) (by k_asm) (by with_reducible assumption) (by ((intro q hq; first | lcg_src | (rcases List.mem_append.mp hq with hq | hq <;> lcg_src) | (rw [List.mem_singleton.mp hq]; lcg_src)))) (by ktr_units) ?_))) | (((with_reducible show wpAny _ _ (call (Value.ref 112) [_, _]) _ _ _); k_dflt (refine inner_vs (by k_asm) (by k_asm) (by k_asm) (by k_asm) (by k_asm) (by first | exact rfl | assumption) (by with_reducible assumption) (by ((intro q hq; first | lcg_src | (rcases List.mem_append.mp hq with hq | hq <;> lcg_src) | (rw [List.mem_singleton.mp hq]; lcg_src)))) (by with_reducible assumption) (by ((intro q hq; first | lcg_src | (rcases List.mem_append.mp hq with hq | hq <;> lcg_src) | (rw [List.mem_singleton.mp hq]; lcg_src)))) (by with_reducible assumption) (by with_reducible assumption) (by ktr_room) (by ktr_units) ?_); intro h' tk' F' N')) | (((with_reducible show wpAny _ _ (compareOp CmpOp.Eq _ _) _ _ _); k_dflt (first | refine eq_step (by with_reducible assumption) (by with_reducible assumption) (fun _ => ?_) (fun z => absurd rfl z) (by ktr_units) | refine eq_step (by with_reducible assumption) (by with_reducible assumption) (fun z => absurd z hke) (fun _ => ?_) (by ktr_units)))) | ((with_reducible show wpAny _ _ (callWith _ (Value.ref _) _ _ _) _ _ _); (k_here; k_dflt (first | refine' callWith_K ?k1 ?k2 ?_; (case k1 => k_asm); (case k2 => k_is); k_whole | refine' callWith_K0 ?k1 ?k2 ?_; (case k1 => k_in); (case k2 => k_is); k_whole); (try dsimp only [List.nil_append, List.append_nil]))) | walk1 | (dsimp only; walk1) | (leave1; walk_say "STEP leave1"; try dsimp only) | fail "no step"))
          all_goals exact ⟨rfl, _, _, rfl, by k_asm, by with_reducible assumption⟩
        · rw [if_neg hke] at hget9
          (repeat' (first | (k_unfold; (try dsimp only)) | (k_end; wrow_close) | ((with_reducible show wpAny _ _ (compareOp CmpOp.NotEq _ _) _ _ _); (k_dflt (refine ne_rg (by k_asm) (by k_asm) (by k_asm) (by with_reducible assumption) (by ((intro q hq; first | lcg_src | (rcases List.mem_append.mp hq with hq | hq <;> lcg_src) | (rw [List.mem_singleton.mp hq]; lcg_src)))) (by ktr_units) ?_))) | (((with_reducible show wpAny _ _ (subscriptTail (PySem.Expr.Name _ _) (PySem.Expr.Name _ _) (Value.ref _) _) _ _ _); ((k_dflt (refine kda_item (knd := mix _ _) (by k_asm) (by lcg_src) (by with_reducible assumption) (StepOk.is (by with_reducible assumption)) (by with_reducible assumption) ?_))))) | (((with_reducible show wpAny _ _ (call (Value.ref 112) [_, _]) _ _ _); k_dflt (refine inner_vs (by k_asm) (by k_asm) (by k_asm) (by k_asm) (by k_asm) (by first | exact rfl | assumption) (by with_reducible assumption) (by ((intro q hq; first | lcg_src | (rcases List.mem_append.mp hq with hq | hq <;> lcg_src) | (rw [List.mem_singleton.mp hq]; lcg_src)))) (by with_reducible assumption) (by ((intro q hq; first | lcg_src | (rcases List.mem_append.mp hq with hq | hq <;> lcg_src) | (rw [List.mem_singleton.mp hq]; lcg_src)))) (by with_reducible assumption) (by with_reducible assumption) (by ktr_room) (by ktr_units) ?_); intro h' tk' F' N')) | (((with_reducible show wpAny _ _ (compareOp CmpOp.Eq _ _) _ _ _); k_dflt (first | refine eq_step (by with_reducible assumption) (by with_reducible assumption) (fun _ => ?_) (fun z => absurd rfl z) (by ktr_units) | refine eq_step (by with_reducible assumption) (by with_reducible assumption) (fun z => absurd z hke) (fun _ => ?_) (by ktr_units)))) | ((with_reducible show wpAny _ _ (callWith _ (Value.ref _) _ _ _) _ _ _); (k_here; k_dflt (first | refine' callWith_K ?k1 ?k2 ?_; (case k1 => k_asm); (case k2 => k_is); k_whole | refine' callWith_K0 ?k1 ?k2 ?_; (case k1 => k_in); (case k2 => k_is); k_whole); (try dsimp only [List.nil_append, List.append_nil]))) | walk1 | (dsimp only; walk1) | (leave1; walk_say "STEP leave1"; try dsimp only) | fail "no step"))
          all_goals exact ⟨rfl, _, _, rfl, by k_asm, by with_reducible assumption⟩
      intro D' h' tk' F' N'
      (repeat' (first | (k_unfold; (try dsimp only)) | (k_end; wrow_close) | ((with_reducible show wpAny _ _ (eval (PySem.Expr.List _ _) _) _ _ _); (k_dflt (refine list_svs (by rfl) (by first | exact rfl | assumption) (by k_asm) (by k_asm) (by rfl) (by size_fits) ?_); intro Dw7 hw7 ow7 Fw7 Nw7 lw7)) | walk1 | (dsimp only; walk1) | (leave1; walk_say "STEP leave1"; try dsimp only) | fail "no step"))
      refine ret _ _ tl _ _ (news_sub (by k_asm) fun q hq => ?_) hTab (.inl rfl) (by with_reducible assumption) (by k_asm)
      simp only [List.mem_cons, List.mem_append] at hq
      rcases hq with rfl | rfl | hq | hq <;> lcg_src
end Mine
end
section
namespace Mine
open PySem.Spec PySem.Calls PyProof.Rows.LCg
section
variable {prog : Program} {w : World} {A : Around} {E : Value → Shared → Prop} {s : Shared} {h₀ : Heap} {L : Addr} {m : Str → Option Value} {env : Env}
noncomputable def SrcT (prog : Program) (w : World) (A : Around) (h₀ : Heap) (L : Addr) (m : Str → Option Value) (env : Env) (elt : PySem.Expr) (x : Str) (scope : Scope) (cl : List (Str × Addr)) (Fin : Shared → List Value → List (Addr × Obj) → Prop) (xv : Value) (s₁ : Shared) : Prop :=
  ∃ ax its k news, xv = .ref ax ∧ A.handled = none ∧ Fr h₀ L s₁.heap m ∧ News h₀ L s₁.heap news ∧ (ax, tup its k) ∈ news ∧ its.size ≤ sizeLine ∧
    ∀ s₂ : Shared, (∃ h, s₂ = { s₁ with heap := h }) → CompRest prog w A h₀ L m env elt x scope cl s₂ (fun nw => (ax, tup its k) ∈ nw) (fun i v => its[i]? = some v) (Fin s₂) its.size 0 [] news
theorem ListComp_T {elt iter : PySem.Expr} {x : Str} {px : Pos} {scope : Scope} {cl : List (Str × Addr)} {pos : Pos} {Q : Value → Shared → Prop} (_F₀ : Fr h₀ L s.heap m)
    (hclos : closureFor scope env = pure cl) (hcell : ∀ y ∈ scope.names, y.2 ≠ .cell) (hkind : scope.kind = .function)
    (hnames : ∀ y ∈ scope.names, y.2 = .local → scope.names.lookup y.1 = some .local) (hx : scope.names.lookup x = some .local)
    (h : wpAny (model prog w) A (eval iter env) (SrcT prog w A h₀ L m env elt x scope cl (fun s₂ => FinE h₀ L m s₂ Q)) E s)
    (hs : ∀ x, foldedSetIterable iter env x = pure x := by intro _; rfl) :
    wpAny (model prog w) A (eval (.ListComp elt [⟨.Name x px, iter, [], 0⟩] scope pos) env) Q E s := by
  rw [eval_ListComp]
  refine wpAny_comprehension_free (use := none) rfl hs hclos hkind hnames (wpAny_mono h (fun xv s₁ h₁ => ?_) fun _ _ e => e)
  obtain ⟨ax, its, k, news, rfl, hh, F, N, hm, hsz, R⟩ := h₁
  have hl : ∀ {g : Heap} {nw : List (Addr × Obj)}, News h₀ L g nw → (ax, tup its k) ∈ nw → g.IsTuple ax its := fun N' hm' => ⟨_, (N' _ hm').1, rfl, _, rfl⟩
  have hlt : ax < s₁.heap.objs.size := Heap.lt_size (N _ hm).1
  refine wpAny_pyIter_tuple (hl N hm) ?_
  refine block_U (S := fun nw => (ax, tup its k) ∈ nw) (Walks.tuple hh s₁.heap.objs.size ax (Nat.ne_of_lt hlt) its) hsz (fun i h st => by obtain ⟨o, e, _⟩ := st.1; exact ⟨o, e⟩)
    (fun i h h' o nw st e e' _ N' hS => ⟨st.1.at fun q hq => by rw [e] at hq; cases hq; exact e', hl N' hS⟩) hcell hkind hx
    ⟨⟨_, Heap.get?_push_size _ rfl, rfl, rfl⟩, ⟨_, Heap.get?_push_of_some _ (N _ hm).1, rfl, _, rfl⟩⟩ (fun b hb => ?_)
    (F.keeps fun _ _ e => Heap.get?_push_of_some _ e) (N.grown fun _ _ e => Heap.get?_push_of_some _ e) (Nat.ne_of_lt F.ns.lt) (next_is_new F) (fun p hp => Nat.ne_of_lt (Heap.lt_size (N p hp).1)) hm (R _ ⟨_, rfl⟩) ?_
  · show b < (s₁.heap.push _).objs.size
    rw [Heap.size_push]
    rcases List.mem_cons.mp hb with rfl | hb
    · exact Nat.lt_succ_self _
    · rw [List.mem_singleton.mp hb]; exact Nat.lt_succ_of_lt hlt
  · intro D C h tk m' ys news' F' N' o1 hn hC₀ hD₀ hCL hDL hCD offC fin
    refine ⟨m', hn, fun h'' hs'' => fin D h'' tk (F'.change hs'' hCL hC₀) (fun p hp => ?_) o1⟩
    refine ⟨hs''.extBut _ _ ?_ (N' p hp).1, (N' p hp).2⟩
    rcases List.mem_cons.mp hp with rfl | hp
    · exact Ne.symm hCD
    · exact offC p hp
theorem srcT_empty {elt : PySem.Expr} {x : Str} {scope : Scope} {cl : List (Str × Addr)} {Q : Value → Shared → Prop} {t : Addr} {k : Nat} {news : List (Addr × Obj)} (hh : A.handled = none) (F : Fr h₀ L s.heap m) (N : News h₀ L s.heap news)
    (hm : (t, tup #[] k) ∈ news) (hq : ∀ D h tk, Fr h₀ L h m → News h₀ L h ((D, lst []) :: news) → Q (.ref D) { s with heap := h, toks := tk }) :
    SrcT prog w A h₀ L m env elt x scope cl (fun s₂ => FinE h₀ L m s₂ Q) (.ref t) s :=
  ⟨t, #[], k, news, rfl, hh, F, N, hm, Nat.zero_le _, fun s₂ ⟨g, e⟩ => by subst e; exact CompRest.zero fun D h tk F' N' _ => hq D h tk F' N'⟩
end
end Mine
end
section
namespace Mine
open PySem.Spec PySem.Calls

structure LeafHd (h : Str) : Prop where
  lay : PyData.canLay0 (.str h) = true
  ne : ∀ x ∈ [Str.ofString "ref", Str.ofString "box", Str.ofString "array", Str.ofString "tuple", Str.ofString "adt", Str.ofString "param"], (h == x) = false
theorem eq_strv {prog : Program} {w : World} {A : Around} {E : Value → Shared → Prop} {s : Shared} {h lit : Str} {t u : Tok} {Q : Value → Shared → Prop} (hh : LeafHd h) (hm : lit ∈ [Str.ofString "ref", Str.ofString "box", Str.ofString "array", Str.ofString "tuple", Str.ofString "adt", Str.ofString "param"]) (hu : A.units + 64 < cLine) (hq : Q (.bool false) s) :
    wpAny (model prog w) A (compareOp .Eq (.str h t) (.str lit u)) Q E s := by
  have hl : PyData.canLay0 (.str lit) = true := by
    simp only [List.mem_cons, List.not_mem_nil, or_false] at hm
    rcases hm with rfl | rfl | rfl | rfl | rfl | rfl <;> decide +kernel
  refine eq_dataH (.str h t) (.str lit u) (shaped_of hh.lay (by simp only [PyData.depth]; omega)) (shaped_of hl (by simp only [PyData.depth]; omega)) hu ?_
  rw [show PyData.eqv (.str h) (.str lit) = false by simpa [PyData.eqv] using hh.ne lit hm]
  exact hq
set_option maxRecDepth 100000 in
set_option maxHeartbeats 8000000 in
theorem parts_leaf {prog : Program} {w : World} {p : Program} {loose : List Str} {mean : ExcName → Option Value} {mg mb : Str → Option Value} {dp un : Nat} {gd : Option (List Code)} {cn : Str} {cs : Scope} {a : Addr} {ccd : Value} {cl : List (Str × Addr)} {outer : List Env} {A₀ : Around} {base h₀ : Heap} {L : Addr} {m : Str → Option Value} {s : Shared} {Q E : Value → Shared → Prop} {news : List (Addr × Obj)}
    (B : Below A₀ base outer h₀) (F : Fr h₀ L s.heap m) (X : (Mine.kmk.heap_1 w.params).In h₀) (N : News h₀ L s.heap news) (T : Top p loose mean mg mb h₀) (hk : cs.kind = .function) {x : Addr} {h : Str} {t : Tok} {r : List Value} {k : Nat} (hm : (x, tup (.str h t :: r).toArray k) ∈ news) (hh : LeafHd h) (hdp : dp + 2 < recursionLimit) (hun : un + 80 < cLine)
    (ret : ∀ D h' tk', Fr h₀ L h' m → News h₀ L h' ((D, tup #[] 0) :: news) → AllLt D news → Q (.ref D) { s with heap := h', toks := tk' }) :
    wpAny (model prog w) (ktrTop dp un gd cn cs L a ccd cl outer) (call (.ref 68) [.ref x]) Q E s := by
  refine wpAny_call ?_
  k_dflt ktr_enter
  (repeat' (first | (k_unfold; (try dsimp only)) | (k_end; wrow_close) | ((with_reducible show wpAny _ _ (subscriptTail (PySem.Expr.Name _ _) (PySem.Expr.Constant _ _ _) (Value.ref _) (Value.int _ _)) _ _ _); (k_dflt (refine item_at0 (by k_asm) (by lcg_src) ?_))) | ((with_reducible show wpAny _ _ (compareOp CmpOp.Eq (Value.str _ _) (Value.str _ _)) _ _ _); (k_dflt (refine eq_strv (by with_reducible assumption) (by simp only [List.mem_cons, true_or, or_true]) (by ktr_units) ?_))) | ((with_reducible show wpAny _ _ (storeName _ _ _) _ _ _); (k_dflt (refine store_o (by k_asm) (by k_asm) ?_ (by first | exact rfl | assumption) (by rfl)); intro hw7 mw7 Fw7 Nw7)) | ((with_reducible show wpAny _ _ (eval (PySem.Expr.Subscript _ _ _) _) _ _ _); (k_dflt (refine sub_sv (by rfl) (by first | exact rfl | assumption) (by k_asm) (by rfl) (by rfl) ?_))) | ((with_reducible show wpAny _ _ (PySem.isTrue (PySem.Expr.Compare _ [_] [_] _) _ _) _ _ _); (k_dflt (first | refine isTrue_sv (by rfl) (by first | exact rfl | assumption) (by k_asm) (by rfl) (by rfl) ?_ | refine isTrue_sub (by rfl) (by first | exact rfl | assumption) (by k_asm) (by rfl) (by rfl) ?_); (try dsimp only))) | ((with_reducible show wpAny _ _ (eval (PySem.Expr.Tuple _ _ _) _) _ _ _); (k_dflt (refine tuple_svs (by rfl) (by first | exact rfl | assumption) (by k_asm) (by k_asm) (by rfl) (by size_fits) ?_); intro Dw7 hw7 ow7 Fw7 Nw7 lw7)) | ((with_reducible show wpAny _ _ (execs [] _) _ _ _); ((with_reducible refine Mine.gen_tok ?_); intro tk; (with_reducible refine wpAny_execs_nil ?_); (try dsimp only))) | ((with_reducible show wpAny _ _ (execs (_ :: _) _) _ _ _); ((with_reducible refine Mine.gen_tok ?_); intro tk; (with_reducible refine wpAny_execs_cons ?_); (try dsimp only))) | walk1 | (dsimp only; walk1) | (leave1; walk_say "STEP leave1"; try dsimp only) | fail "no step"))
  exact ret _ _ _ (by k_asm) (by k_asm) (by with_reducible assumption)
set_option maxRecDepth 100000 in
set_option maxHeartbeats 8000000 in
theorem rebuilt_leaf {prog : Program} {w : World} {p : Program} {loose : List Str} {mean : ExcName → Option Value} {mg mb : Str → Option Value} {dp un : Nat} {gd : Option (List Code)} {cn : Str} {cs : Scope} {a : Addr} {ccd : Value} {cl : List (Str × Addr)} {outer : List Env} {A₀ : Around} {base h₀ : Heap} {L : Addr} {m : Str → Option Value} {s : Shared} {Q E : Value → Shared → Prop} {news : List (Addr × Obj)}
    (B : Below A₀ base outer h₀) (F : Fr h₀ L s.heap m) (X : (Mine.kmk.heap_1 w.params).In h₀) (N : News h₀ L s.heap news) (T : Top p loose mean mg mb h₀) (hk : cs.kind = .function) {x : Addr} {h : Str} {t : Tok} {r : List Value} {k : Nat} {pv : Value} (hm : (x, tup (.str h t :: r).toArray k) ∈ news) (hh : LeafHd h) (hdp : dp + 2 < recursionLimit) (hun : un + 80 < cLine)
    (ret : ∀ h' tk', Fr h₀ L h' m → News h₀ L h' news → Q (.ref x) { s with heap := h', toks := tk' }) :
    wpAny (model prog w) (ktrTop dp un gd cn cs L a ccd cl outer) (call (.ref 75) [.ref x, pv]) Q E s := by
  refine wpAny_call ?_
  k_dflt ktr_enter
  (repeat' (first | (k_unfold; (try dsimp only)) | (k_end; wrow_close) | ((with_reducible show wpAny _ _ (subscriptTail (PySem.Expr.Name _ _) (PySem.Expr.Constant _ _ _) (Value.ref _) (Value.int _ _)) _ _ _); (k_dflt (refine item_at0 (by k_asm) (by lcg_src) ?_))) | ((with_reducible show wpAny _ _ (compareOp CmpOp.Eq (Value.str _ _) (Value.str _ _)) _ _ _); (k_dflt (refine eq_strv (by with_reducible assumption) (by simp only [List.mem_cons, true_or, or_true]) (by ktr_units) ?_))) | ((with_reducible show wpAny _ _ (storeName _ _ _) _ _ _); (k_dflt (refine store_o (by k_asm) (by k_asm) ?_ (by first | exact rfl | assumption) (by rfl)); intro hw7 mw7 Fw7 Nw7)) | ((with_reducible show wpAny _ _ (eval (PySem.Expr.Subscript _ _ _) _) _ _ _); (k_dflt (refine sub_sv (by rfl) (by first | exact rfl | assumption) (by k_asm) (by rfl) (by rfl) ?_))) | ((with_reducible show wpAny _ _ (PySem.isTrue (PySem.Expr.Compare _ [_] [_] _) _ _) _ _ _); (k_dflt (first | refine isTrue_sv (by rfl) (by first | exact rfl | assumption) (by k_asm) (by rfl) (by rfl) ?_ | refine isTrue_sub (by rfl) (by first | exact rfl | assumption) (by k_asm) (by rfl) (by rfl) ?_); (try dsimp only))) | ((with_reducible show wpAny _ _ (execs [] _) _ _ _); ((with_reducible refine Mine.gen_tok ?_); intro tk; (with_reducible refine wpAny_execs_nil ?_); (try dsimp only))) | ((with_reducible show wpAny _ _ (execs (_ :: _) _) _ _ _); ((with_reducible refine Mine.gen_tok ?_); intro tk; (with_reducible refine wpAny_execs_cons ?_); (try dsimp only))) | walk1 | (dsimp only; walk1) | (leave1; walk_say "STEP leave1"; try dsimp only) | fail "no step"))
  exact ret _ _ (by k_asm) (by k_asm)
set_option maxRecDepth 100000 in
set_option maxHeartbeats 8000000 in
theorem with_leaf {prog : Program} {w : World} {p : Program} {loose : List Str} {mean : ExcName → Option Value} {mg mb : Str → Option Value} {dp un : Nat} {gd : Option (List Code)} {cn : Str} {cs : Scope} {a : Addr} {ccd : Value} {cl : List (Str × Addr)} {outer : List Env} {A₀ : Around} {base h₀ : Heap} {L : Addr} {m : Str → Option Value} {s : Shared} {Q E : Value → Shared → Prop} {news : List (Addr × Obj)}
    (B : Below A₀ base outer h₀) (F : Fr h₀ L s.heap m) (X : (Mine.kmk.heap_1 w.params).In h₀) (N : News h₀ L s.heap news) (T : Top p loose mean mg mb h₀) (hk : cs.kind = .function) {x : Addr} {h : Str} {t : Tok} {r : List Value} {k : Nat} {fv : Value} (hm : (x, tup (.str h t :: r).toArray k) ∈ news) (hh : LeafHd h) (hdp : dp + 4 < recursionLimit) (hun : un + 90 < cLine)
    (ret : ∀ h' tk', Fr h₀ L h' m → News h₀ L h' news → Q (.ref x) { s with heap := h', toks := tk' }) :
    wpAny (model prog w) (ktrTop dp un gd cn cs L a ccd cl outer) (call (.ref 85) [.ref x, fv]) Q E s := by
  refine wpAny_call ?_
  k_dflt (((refine' code_defC ?k1 ?k2 ?k3 ?k4 ?k5 ?kA ?kF ?kK ?k6 ?k7 ?k8 ?k9 ?kB ?kD ?_ ?c2 ?c3 ?c4; (case kA => exact rfl); (case kF => exact rfl); (case kK => assumption); (case k1 => k_asm); (case k2 => k_asm); (case k3 => k_asm); (case k4 => k_asm); (case k5 => k_asm); (case k6 => k_is); (case k7 => k_is); (case k8 => ktr_room); (case k9 => first | exact BindsTo.of_eq rfl | exact binds_K (by k_in) rfl (by k_is) rfl rfl rfl | fail "k_enter: no rule for these arguments"); (case kB => exact rfl); (case kD => decide +kernel); (case c2 => exact rfl); (case c3 => exact rfl); (case c4 => exact rfl); k_whole; intro g' L' h' tk' cells' FG' F' N' Y' B' X' T' l1; (try k_lt l1); k_cells Y'; (try simp only [List.cons_append, List.nil_append] at N'); (try dsimp only); (try k_lift B'); (try k_fold))))
  (repeat' (first | (k_unfold; (try dsimp only)) | (k_end; wrow_close) | ((with_reducible show wpAny _ _ (eval (PySem.Expr.ListComp _ _ _ _) _) _ _ _); (k_dflt (refine ListComp_T (by k_asm) (by with_unfolding_all rfl) (by decide) (by rfl) (by decide) (by rfl) ?_))) | ((with_reducible show SrcT _ _ _ _ _ _ _ _ _ _ _ _ _ _); (k_dflt (refine srcT_empty (by rfl) (by k_asm) (by k_asm) (by lcg_src) ?_); intro D' h' tk' F' N')) | (((with_reducible show wpAny _ _ (call (Value.ref 75) [Value.ref _, _]) _ _ _); k_dflt (refine rebuilt_leaf (by k_asm) (by k_asm) (by k_asm) (by k_asm) (by k_asm) (by first | exact rfl | assumption) (by lcg_src) (by with_reducible assumption) (by ktr_room) (by ktr_units) ?_); intro h' tk' F' N')) | (((with_reducible show wpAny _ _ (call (Value.ref 68) [Value.ref _]) _ _ _); k_dflt (refine parts_leaf (by k_asm) (by k_asm) (by k_asm) (by k_asm) (by k_asm) (by first | exact rfl | assumption) (by lcg_src) (by with_reducible assumption) (by ktr_room) (by ktr_units) ?_); intro D' h' tk' F' N' l1)) | ((with_reducible show wpAny _ _ (subscriptTail (PySem.Expr.Name _ _) (PySem.Expr.Constant _ _ _) (Value.ref _) (Value.int _ _)) _ _ _); (k_dflt (refine item_at0 (by k_asm) (by lcg_src) ?_))) | ((with_reducible show wpAny _ _ (compareOp CmpOp.Eq (Value.str _ _) (Value.str _ _)) _ _ _); (k_dflt (refine eq_strv (by with_reducible assumption) (by simp only [List.mem_cons, true_or, or_true]) (by ktr_units) ?_))) | ((with_reducible show wpAny _ _ (eval (PySem.Expr.Call (PySem.Expr.Name _ _) (_ :: _) [] _) _) _ _ _); (k_dflt (refine call_svs (by rfl) (by first | exact rfl | assumption) (by k_asm) (by k_asm) (by k_asm) (by k_is) (by k_is) (by rfl) ?_))) | ((with_reducible show wpAny _ _ (PySem.isTrue (PySem.Expr.Compare _ [_] [_] _) _ _) _ _ _); (k_dflt (first | refine isTrue_sv (by rfl) (by first | exact rfl | assumption) (by k_asm) (by rfl) (by rfl) ?_ | refine isTrue_sub (by rfl) (by first | exact rfl | assumption) (by k_asm) (by rfl) (by rfl) ?_); (try dsimp only))) | ((with_reducible show wpAny _ _ (callWith _ (Value.ref _) _ _ _) _ _ _); (k_here; k_dflt (first | refine' callWith_K ?k1 ?k2 ?_; (case k1 => k_asm); (case k2 => k_is); k_whole | refine' callWith_K0 ?k1 ?k2 ?_; (case k1 => k_in); (case k2 => k_is); k_whole); (try dsimp only [List.nil_append, List.append_nil]))) | ((with_reducible show wpAny _ _ (execs [] _) _ _ _); ((with_reducible refine Mine.gen_tok ?_); intro tk; (with_reducible refine wpAny_execs_nil ?_); (try dsimp only))) | ((with_reducible show wpAny _ _ (execs (_ :: _) _) _ _ _); ((with_reducible refine Mine.gen_tok ?_); intro tk; (with_reducible refine wpAny_execs_cons ?_); (try dsimp only))) | walk1 | (dsimp only; walk1) | (leave1; walk_say "STEP leave1"; try dsimp only) | fail "no step"))
  exact ret _ _ (by k_asm) (news_sub (by k_asm) (by intro p hp; lcg_src))
set_option maxRecDepth 100000 in
set_option maxHeartbeats 8000000 in
theorem subst_leaf {prog : Program} {w : World} {p : Program} {loose : List Str} {mean : ExcName → Option Value} {mg mb : Str → Option Value} {dp un : Nat} {gd : Option (List Code)} {cn : Str} {cs : Scope} {a : Addr} {ccd : Value} {cl : List (Str × Addr)} {outer : List Env} {A₀ : Around} {base h₀ : Heap} {L : Addr} {m : Str → Option Value} {s : Shared} {Q E : Value → Shared → Prop} {news : List (Addr × Obj)}
    (B : Below A₀ base outer h₀) (F : Fr h₀ L s.heap m) (X : (Mine.kmk.heap_1 w.params).In h₀) (N : News h₀ L s.heap news) (T : Top p loose mean mg mb h₀) (hk : cs.kind = .function) {x : Addr} {h : Str} {t : Tok} {r : List Value} {k : Nat} {fv : Value} (hm : (x, tup (.str h t :: r).toArray k) ∈ news) (hh : LeafHd h) (hdp : dp + 4 < recursionLimit) (hun : un + 90 < cLine)
    (ret : ∀ h' tk', Fr h₀ L h' m → News h₀ L h' news → Q (.ref x) { s with heap := h', toks := tk' }) :
    wpAny (model prog w) (ktrTop dp un gd cn cs L a ccd cl outer) (call (.ref 80) [.ref x, fv]) Q E s := by
  refine wpAny_call ?_
  k_dflt (((refine' code_defC ?k1 ?k2 ?k3 ?k4 ?k5 ?kA ?kF ?kK ?k6 ?k7 ?k8 ?k9 ?kB ?kD ?_ ?c2 ?c3 ?c4; (case kA => exact rfl); (case kF => exact rfl); (case kK => assumption); (case k1 => k_asm); (case k2 => k_asm); (case k3 => k_asm); (case k4 => k_asm); (case k5 => k_asm); (case k6 => k_is); (case k7 => k_is); (case k8 => ktr_room); (case k9 => first | exact BindsTo.of_eq rfl | exact binds_K (by k_in) rfl (by k_is) rfl rfl rfl | fail "k_enter: no rule for these arguments"); (case kB => exact rfl); (case kD => decide +kernel); (case c2 => exact rfl); (case c3 => exact rfl); (case c4 => exact rfl); k_whole; intro g' L' h' tk' cells' FG' F' N' Y' B' X' T' l1; (try k_lt l1); k_cells Y'; (try simp only [List.cons_append, List.nil_append] at N'); (try dsimp only); (try k_lift B'); (try k_fold))))
  (repeat' (first | (k_unfold; (try dsimp only)) | (k_end; wrow_close) | ((with_reducible show wpAny _ _ (eval (PySem.Expr.ListComp _ _ _ _) _) _ _ _); (k_dflt (refine ListComp_T (by k_asm) (by with_unfolding_all rfl) (by decide) (by rfl) (by decide) (by rfl) ?_))) | ((with_reducible show SrcT _ _ _ _ _ _ _ _ _ _ _ _ _ _); (k_dflt (refine srcT_empty (by rfl) (by k_asm) (by k_asm) (by lcg_src) ?_); intro D' h' tk' F' N')) | (((with_reducible show wpAny _ _ (call (Value.ref 75) [Value.ref _, _]) _ _ _); k_dflt (refine rebuilt_leaf (by k_asm) (by k_asm) (by k_asm) (by k_asm) (by k_asm) (by first | exact rfl | assumption) (by lcg_src) (by with_reducible assumption) (by ktr_room) (by ktr_units) ?_); intro h' tk' F' N')) | (((with_reducible show wpAny _ _ (call (Value.ref 68) [Value.ref _]) _ _ _); k_dflt (refine parts_leaf (by k_asm) (by k_asm) (by k_asm) (by k_asm) (by k_asm) (by first | exact rfl | assumption) (by lcg_src) (by with_reducible assumption) (by ktr_room) (by ktr_units) ?_); intro D' h' tk' F' N' l1)) | ((with_reducible show wpAny _ _ (subscriptTail (PySem.Expr.Name _ _) (PySem.Expr.Constant _ _ _) (Value.ref _) (Value.int _ _)) _ _ _); (k_dflt (refine item_at0 (by k_asm) (by lcg_src) ?_))) | ((with_reducible show wpAny _ _ (compareOp CmpOp.Eq (Value.str _ _) (Value.str _ _)) _ _ _); (k_dflt (refine eq_strv (by with_reducible assumption) (by simp only [List.mem_cons, true_or, or_true]) (by ktr_units) ?_))) | ((with_reducible show wpAny _ _ (eval (PySem.Expr.Call (PySem.Expr.Name _ _) (_ :: _) [] _) _) _ _ _); (k_dflt (refine call_svs (by rfl) (by first | exact rfl | assumption) (by k_asm) (by k_asm) (by k_asm) (by k_is) (by k_is) (by rfl) ?_))) | ((with_reducible show wpAny _ _ (PySem.isTrue (PySem.Expr.Compare _ [_] [_] _) _ _) _ _ _); (k_dflt (first | refine isTrue_sv (by rfl) (by first | exact rfl | assumption) (by k_asm) (by rfl) (by rfl) ?_ | refine isTrue_sub (by rfl) (by first | exact rfl | assumption) (by k_asm) (by rfl) (by rfl) ?_); (try dsimp only))) | ((with_reducible show wpAny _ _ (callWith _ (Value.ref _) _ _ _) _ _ _); (k_here; k_dflt (first | refine' callWith_K ?k1 ?k2 ?_; (case k1 => k_asm); (case k2 => k_is); k_whole | refine' callWith_K0 ?k1 ?k2 ?_; (case k1 => k_in); (case k2 => k_is); k_whole); (try dsimp only [List.nil_append, List.append_nil]))) | ((with_reducible show wpAny _ _ (execs [] _) _ _ _); ((with_reducible refine Mine.gen_tok ?_); intro tk; (with_reducible refine wpAny_execs_nil ?_); (try dsimp only))) | ((with_reducible show wpAny _ _ (execs (_ :: _) _) _ _ _); ((with_reducible refine Mine.gen_tok ?_); intro tk; (with_reducible refine wpAny_execs_cons ?_); (try dsimp only))) | walk1 | (dsimp only; walk1) | (leave1; walk_say "STEP leave1"; try dsimp only) | fail "no step"))
  exact ret _ _ (by k_asm) (news_sub (by k_asm) (by intro p hp; lcg_src))
end Mine
end
section
namespace Mine
open PySem.Spec PySem.Calls
inductive Split (n : List (Addr × Obj)) : List (Addr × Obj) → List (Addr × Obj) → Prop
  | nil : Split n n []
  | cons {a l tl} : Split n l tl → Split n (a :: l) (a :: tl)
theorem news_take {h₀ h : Heap} {L : Addr} {n l : List (Addr × Obj)} (k : Nat) (N : News h₀ L h l) (e : l.drop k = n) : News h₀ L h (n ++ l.take k) := fun p hp => N p (by
  subst e
  rcases List.mem_append.mp hp with hp | hp
  · exact List.mem_of_mem_drop hp
  · exact List.mem_of_mem_take hp)
noncomputable def intD : PyData := .tuple [.str (Str.ofString "int"), .str (Str.ofString "u8")]
noncomputable def boolD : PyData := .tuple [.str (Str.ofString "bool")]
inductive TyAt (n : List (Addr × Obj)) : Value → PyData → Prop
  | int {x k t u} : (x, tup #[.str (Str.ofString "int") t, .str (Str.ofString "u8") u] k) ∈ n → TyAt n (.ref x) intD
  | bool {x k t} : (x, tup #[.str (Str.ofString "bool") t] k) ∈ n → TyAt n (.ref x) boolD
inductive FldsAt (n : List (Addr × Obj)) : List Value → List PyData → Prop
  | nil : FldsAt n [] []
  | cons {x nm t ty d k vs ds} : (x, tup #[.str nm t, ty] k) ∈ n → TyAt n ty d → FldsAt n vs ds → FldsAt n (.ref x :: vs) (d :: ds)
inductive VarsAt (n : List (Addr × Obj)) : List Value → List (List PyData) → Prop
  | nil : VarsAt n [] []
  | cons {x l nm kd t u k j fs ds vs dss} : (x, tup #[.str nm t, .str kd u, .ref l] k) ∈ n → (l, listOf fs j) ∈ n → FldsAt n fs.toList ds → VarsAt n vs dss → VarsAt n (.ref x :: vs) (ds :: dss)
inductive AdtAt (w : World) (n : List (Addr × Obj)) : Value → List (List PyData) → Prop
  | mk {x d ra pa l vs j k1 k2 t1 t2 t3 t4 t5 t6 t7 v1 v2 v6 v7 dss} : (x, instObj 164 d) ∈ n → (d, dictOf [ent w "path" t1 v1, ent w "module" t2 v2, ent w "regions" t3 (.ref ra), ent w "params" t4 (.ref pa), ent w "variants" t5 (.ref l), ent w "publics" t6 v6, ent w "is_enum" t7 v7] 7) ∈ n →
      (ra, tup #[] k1) ∈ n → (pa, tup #[] k2) ∈ n → (l, listOf vs j) ∈ n → VarsAt n vs.toList dss → AdtAt w n (.ref x) dss
inductive WorldAt (prog : Program) (w : World) (n : List (Addr × Obj)) : Value → Prop
  | mk {x d da oA xs xe t1 t2 t3 t4 t5 t6 t7 t8 v1 v3 v4 v5 v6 v7 v8} : (x, instObj 193 d) ∈ n → (d, dictOf [ent w "modules" t1 v1, ent w "adts" t2 (.ref da), ent w "variants" t3 v3, ent w "sigs" t4 v4, ent w "traits" t5 v5, ent w "impls" t6 v6, ent w "consts" t7 v7, ent w "bodies" t8 v8] 8) ∈ n →
      (da, oA) ∈ n → oA.IsDictOf (strKind prog w) [(Str.ofString "S", .ref xs), (Str.ofString "E", .ref xe)] → (da == sysModules) = false →
      AdtAt w n (.ref xs) [[boolD, intD]] → AdtAt w n (.ref xe) [[], [intD], [intD, boolD]] → WorldAt prog w n (.ref x)
set_option maxRecDepth 100000 in
set_option maxHeartbeats 8000000 in
theorem world_ok {prog : Program} {w : World} {p : Program} {loose : List Str} {mean : ExcName → Option Value} {mg mb : Str → Option Value} {dp un : Nat} {gd : Option (List Code)} {cn : Str} {cs : Scope} {a : Addr} {ccd : Value} {cl : List (Str × Addr)} {outer : List Env} {A₀ : Around} {base h₀ : Heap} {L : Addr} {m : Str → Option Value} {s : Shared} {Q E : Value → Shared → Prop} {news : List (Addr × Obj)}
    (B : Below A₀ base outer h₀) (F : Fr h₀ L s.heap m) (X : (Mine.kmk.heap_1 w.params).In h₀) (N : News h₀ L s.heap news) (T : Top p loose mean mg mb h₀) (hk : cs.kind = .function)
    (ret : ∀ x tl h' tk', Fr h₀ L h' m → News h₀ L h' (news ++ tl) → WorldAt prog w tl (.ref x) → (∀ p ∈ tl, AllLt p.1 news) → Q (.ref x) { s with heap := h', toks := tk' }) :
    wpAny (model prog w) (ktrTop 302 7 gd cn cs L a ccd cl outer) (call (.ref 249) []) Q E s := by
  refine wpAny_call ?_
  k_dflt ktr_enter
  (repeat' (first | (k_unfold; (try dsimp only)) | (k_end; wrow_close) | (((with_reducible show wpAny _ _ (call (Value.ref 193) _) _ _ _); k_dflt (refine top_le (dp' := 310) (un' := 20) (Nat.le_of_ble_eq_true rfl) (Nat.le_of_ble_eq_true rfl) (world_new (dp := 0) (un := 0) (by k_asm) (by k_asm) (by k_asm) (by k_asm) (by k_asm) (by first | exact rfl | assumption) ?_)); intro xW dW daW oW u1 u2 u3 u4 u5 u6 u7 u8 y1 y3 y4 y5 y6 y7 y8 h' tk' F' N' hdW loW la lb l1 l2 l3)) | (((with_reducible show wpAny _ _ (call (Value.ref 164) _) _ _ _); k_dflt (refine top_le (dp' := 310) (un' := 20) (Nat.le_of_ble_eq_true rfl) (Nat.le_of_ble_eq_true rfl) (adt_new (dp := 0) (un := 0) (by k_asm) (by k_asm) (by k_asm) (by k_asm) (by k_asm) (by first | exact rfl | assumption) ?_)); intro xA dA u1 u2 u3 u4 u5 u6 u7 y6 y7 h' tk' F' N' l1 l2)) | ((with_reducible show wpAny _ _ (setItem (Value.ref _) (Value.str _ _) (Value.ref _)) _ _ _); (k_dflt (refine' kda_set (knd := PySem.strKind _ _) ?F ?N ?U ?d (strKind_is _ _ _ _) ?z ?_; (case F => k_asm); (case N => k_asm); (case U => k_updF); (case d => k_asm); (case z => exact Nat.le_of_ble_eq_true (by with_unfolding_all rfl))); intro h' o' F' N' hd'; (try dsimp only at N'))) | ((with_reducible show wpAny _ _ (callWith _ (Value.ref _) _ _ _) _ _ _); (k_here; k_dflt (first | refine' callWith_K ?k1 ?k2 ?_; (case k1 => k_asm); (case k2 => k_is); k_whole | refine' callWith_K0 ?k1 ?k2 ?_; (case k1 => k_in); (case k2 => k_is); k_whole); (try dsimp only [List.nil_append, List.append_nil]))) | ((with_reducible show wpAny _ _ (execs (_ :: _) _) _ _ _); ((with_reducible refine Mine.gen_tok ?_); intro tk; (with_reducible refine wpAny_execs_cons ?_); (try dsimp only))) | walk1 | (dsimp only; walk1) | (leave1; walk_say "STEP leave1"; try dsimp only) | fail "no step"))
  have hN := news_take (n := news) 30 (by k_asm) rfl
  dsimp only [List.take] at hN
  refine ret _ _ _ _ (by k_asm) hN ?hw ?hf
  · refine WorldAt.mk (by lcg_src) (by lcg_src) (by lcg_src) (by assumption) (by with_reducible assumption) ?_ ?_
    · exact AdtAt.mk (by lcg_src) (by lcg_src) (by lcg_src) (by lcg_src) (by lcg_src) (VarsAt.cons (by lcg_src) (by lcg_src) (.cons (by lcg_src) (.bool (by lcg_src)) (.cons (by lcg_src) (.int (by lcg_src)) .nil)) .nil)
    · exact AdtAt.mk (by lcg_src) (by lcg_src) (by lcg_src) (by lcg_src) (by lcg_src) (VarsAt.cons (by lcg_src) (by lcg_src) .nil (VarsAt.cons (by lcg_src) (by lcg_src) (.cons (by lcg_src) (.int (by lcg_src)) .nil) (VarsAt.cons (by lcg_src) (by lcg_src) (.cons (by lcg_src) (.int (by lcg_src)) (.cons (by lcg_src) (.bool (by lcg_src)) .nil)) .nil)))
  · repeat' (first | exact lt_nil | refine lt_cons (by first | with_reducible assumption | exact allLt_suf (by with_reducible assumption) (by intro p hp; lcg_src)) ?_ | refine lt_cons (allLt_suf2 (by with_reducible assumption) (by with_reducible assumption) (by intro p hp; lcg_src)) ?_)
end Mine
end
section
namespace Mine
open PySem.Spec PySem.Calls

theorem item_at3 {prog : Program} {w : World} {A : Around} {E : Value → Shared → Prop} {s : Shared} {value slice : PySem.Expr} {h₀ : Heap} {L l : Addr} {news : List (Addr × Obj)} {n : Nat} {u : Tok} {v0 v1 v2 v : Value} {r : List Value} {Q : Value → Shared → Prop}
    (N : News h₀ L s.heap news) (hm : (l, tup (v0 :: v1 :: v2 :: v :: r).toArray n) ∈ news) (h : Q v s)
    (hs : subscripted slice false (.ref l) (.int 3 u) = operate [.ref l, .int 3 u] (getItem (.ref l) (.int 3 u)) := by with_unfolding_all rfl) :
    wpAny (model prog w) A (subscriptTail value slice (.ref l) (.int 3 u)) Q E s := item_tupX (j := 3) N hm (by decide) (by decide) (seq_at (by simp only [List.size_toArray, List.length_cons]; omega)) (by simp) h hs
inductive AdtOf (prog : Program) (w : World) (n : List (Addr × Obj)) (wx : Addr) (nm : Str) (vs : Array Value) : Prop
  | mk {d da oA kvsA xs dd ra pa l j k3 k4 t1 t2 t3 t4 t5 t6 t7 t8 v1 v3 v4 v5 v6 v7 v8 u1 u2 u3 u4 u5 u6 u7 y1 y2 y6 y7} :
    (wx, instObj 193 d) ∈ n → (d, dictOf [ent w "modules" t1 v1, ent w "adts" t2 (.ref da), ent w "variants" t3 v3, ent w "sigs" t4 v4, ent w "traits" t5 v5, ent w "impls" t6 v6, ent w "consts" t7 v7, ent w "bodies" t8 v8] 8) ∈ n →
    (da, oA) ∈ n → Obj.IsDictOf (strKind prog w) oA kvsA → valueAt kvsA nm = some (.ref xs) →
    (xs, instObj 164 dd) ∈ n → (dd, dictOf [ent w "path" u1 y1, ent w "module" u2 y2, ent w "regions" u3 (.ref ra), ent w "params" u4 (.ref pa), ent w "variants" u5 (.ref l), ent w "publics" u6 y6, ent w "is_enum" u7 y7] 7) ∈ n →
    (ra, tup #[] k3) ∈ n → (pa, tup #[] k4) ∈ n → (l, listOf vs j) ∈ n → AdtOf prog w n wx nm vs
inductive RowAt (n : List (Addr × Obj)) (vs : Array Value) (num : Nat) (ds : List PyData) : Prop
  | mk {r z1 z2 fl k fs jf} : vs[num]? = some (.ref r) → (r, tup #[z1, z2, .ref fl] k) ∈ n → (fl, listOf fs jf) ∈ n → FldsAt n fs.toList ds → RowAt n vs num ds
theorem TyAt.mono {n n' : List (Addr × Obj)} {v : Value} {d : PyData} (h : TyAt n v d) (s : ∀ p ∈ n, p ∈ n') : TyAt n' v d := by
  cases h with
  | int a => exact .int (s _ a)
  | bool a => exact .bool (s _ a)
theorem FldsAt.mono {n n' : List (Addr × Obj)} {vs : List Value} {ds : List PyData} (h : FldsAt n vs ds) (s : ∀ p ∈ n, p ∈ n') : FldsAt n' vs ds := by
  induction h with
  | nil => exact .nil
  | cons a b _ ih => exact .cons (s _ a) (b.mono s) ih
theorem FldsAt.len {n : List (Addr × Obj)} {vs : List Value} {ds : List PyData} (h : FldsAt n vs ds) : vs.length = ds.length := by
  induction h with
  | nil => rfl
  | cons a b _ ih => simp [ih]
theorem FldsAt.at {n : List (Addr × Obj)} {vs : List Value} {ds : List PyData} (h : FldsAt n vs ds) : ∀ {i : Nat} {v : Value}, vs[i]? = some v → ∃ t nm u ty k d, v = .ref t ∧ (t, tup #[.str nm u, ty] k) ∈ n ∧ TyAt n ty d ∧ ds[i]? = some d := by
  induction h with
  | nil => intro i v e; simp at e
  | cons a b _ ih =>
    intro i v e
    rcases i with _ | i
    · simp at e; subst e; exact ⟨_, _, _, _, _, _, rfl, a, b, rfl⟩
    · simpa using ih (i := i) (by simpa using e)
theorem FldsAt.snoc {n : List (Addr × Obj)} {vs : List Value} {ds : List PyData} {x nm t ty d k} (h : FldsAt n vs ds) (a : (x, tup #[.str nm t, ty] k) ∈ n) (b : TyAt n ty d) : FldsAt n (vs ++ [.ref x]) (ds ++ [d]) := by
  induction h with
  | nil => exact .cons a b .nil
  | cons a' b' _ ih => exact .cons a' b' ih
theorem leaf_int : LeafHd (Str.ofString "int") := ⟨by decide +kernel, by decide +kernel⟩
theorem leaf_bool : LeafHd (Str.ofString "bool") := ⟨by decide +kernel, by decide +kernel⟩
theorem TyAt.leaf {n : List (Addr × Obj)} {v : Value} {d : PyData} (h : TyAt n v d) : ∃ x hd t r k, v = .ref x ∧ (x, tup (.str hd t :: r).toArray k) ∈ n ∧ LeafHd hd := by
  cases h with
  | int a => exact ⟨_, _, _, _, _, rfl, a, leaf_int⟩
  | bool a => exact ⟨_, _, _, [], _, rfl, a, leaf_bool⟩
theorem take_snoc {ds : List PyData} {i : Nat} {d : PyData} (h : ds[i]? = some d) : ds.take (i + 1) = ds.take i ++ [d] := by
  rw [List.take_succ, h]; rfl
theorem item_listG {prog : Program} {w : World} {A : Around} {E : Value → Shared → Prop} {s : Shared} {value slice : PySem.Expr} {h₀ : Heap} {L l : Addr} {news : List (Addr × Obj)} {its : Array Value} {n k : Nat} {u : Tok} {v : Value} {Q : Value → Shared → Prop}
    (N : News h₀ L s.heap news) (hm : (l, listOf its n) ∈ news) (hk : k < 3) (e : its[k]? = some v) (h : Q v s)
    (hs : subscripted slice false (.ref l) (.int (k : Int) u) = operate [.ref l, .int (k : Int) u] (getItem (.ref l) (.int (k : Int) u)) := by with_unfolding_all rfl) :
    wpAny (model prog w) A (subscriptTail value slice (.ref l) (.int (k : Int) u)) Q E s := by
  have hl : s.heap.IsList l its := ⟨_, N.get hm, rfl, _, rfl⟩
  exact tail_any hl.typeIs slot_list_getitem.lookup (wpAny_getItem_list hl (Int.natCast_nonneg _) (by omega) (by simpa using e) h) hs
theorem mv6 {h₀ h : Heap} {L : Addr} {f a b c d e q : Addr × Obj} {tl rst : List (Addr × Obj)} (N : News h₀ L h (f :: (tl ++ (a :: b :: c :: d :: e :: q :: rst)))) : News h₀ L h (f :: a :: b :: c :: d :: e :: q :: (tl ++ rst)) := fun p hp => N p (by
  simp only [List.mem_cons, List.mem_append] at hp ⊢
  rcases hp with hp | hp | hp | hp | hp | hp | hp | hp | hp <;> simp only [hp, true_or, or_true])
theorem turn_one {h₀ h : Heap} {L : Addr} {q I C D : Addr × Obj} {n tl : List (Addr × Obj)} (N : News h₀ L h (q :: I :: C :: D :: (n ++ tl))) : News h₀ L h (I :: C :: D :: (n ++ ([q] ++ tl))) := fun p hp => N p (by
  simp only [List.mem_cons, List.mem_append, List.not_mem_nil, or_false] at hp ⊢
  rcases hp with hp | hp | hp | hp | hp | hp <;> simp only [hp, true_or, or_true])
set_option maxRecDepth 100000 in
set_option maxHeartbeats 8000000 in
theorem fields_ok {prog : Program} {w : World} {p : Program} {loose : List Str} {mean : ExcName → Option Value} {mg mb : Str → Option Value} {gd : Option (List Code)} {cn : Str} {cs : Scope} {a : Addr} {ccd : Value} {cl : List (Str × Addr)} {outer : List Env} {A₀ : Around} {base h₀ : Heap} {L : Addr} {m : Str → Option Value} {s : Shared} {Q E : Value → Shared → Prop}
    (B : Below A₀ base outer h₀) (F : Fr h₀ L s.heap m) (X : (Mine.kmk.heap_1 w.params).In h₀) {rst : List (Addr × Obj)} {ps : Array Value} (N : News h₀ L s.heap ((94, tabObj ps) :: rst)) (T : Top p loose mean mg mb h₀) (hk : cs.kind = .function) (hr : ∀ p ∈ rst, p.1 ≠ 94) {nT : List (Addr × Obj)} (hTab : TabOk 58 4 ((Str.ofString "fields_of" ++ Str.ofString ".<locals>.") ++ Str.ofString "put_in") ps nT) (hCd : CodeHd base 96 94)
    {x a1 a2 wx : Addr} {k k1 k2 num : Nat} {t u tv : Tok} {nm : Str} {vs : Array Value} {ds : List PyData}
    (hx : (x, tup #[.str (Str.ofString "adt") t, .str nm u, .ref a1, .ref a2] k) ∈ rst) (h1 : (a1, tup #[] k1) ∈ rst) (h2 : (a2, tup #[] k2) ∈ rst)
    (hA : AdtOf prog w rst wx nm vs) (hR : RowAt rst vs num ds) (hi2 : num < 3) (hds : ds.length ≤ 3)
    (ret : ∀ l zs ps' tl h' tk', Fr h₀ L h' m → News h₀ L h' ((94, tabObj ps') :: (tl ++ rst)) → TabOk 58 4 ((Str.ofString "fields_of" ++ Str.ofString ".<locals>.") ++ Str.ofString "put_in") ps' (tl ++ nT) → (∀ p ∈ tl, AllNe p.1 ((94, tabObj ps) :: rst)) → (l, LCg.lst zs) ∈ tl → FldsAt (tl ++ rst) zs ds → TabFull 58 4 ps' → (TabFull 58 4 ps → ps' = ps) → Q (.ref l) { s with heap := h', toks := tk' }) :
    wpAny (model prog w) (ktrTop 306 25 gd cn cs L a ccd cl outer) (call (.ref 97) [.ref x, .int (num : Int) tv, .ref wx]) Q E s := by
  obtain ⟨hw, hd, ha, hA, hn, hxs, hdd, hra, hpa, hl⟩ := hA
  obtain ⟨hv, hrr, hfl, hF⟩ := hR
  refine wpAny_call ?_
  k_dflt (((refine' code_defC ?k1 ?k2 ?k3 ?k4 ?k5 ?kA ?kF ?kK ?k6 ?k7 ?k8 ?k9 ?kB ?kD ?_ ?c2 ?c3 ?c4; (case kA => exact rfl); (case kF => exact rfl); (case kK => assumption); (case k1 => k_asm); (case k2 => k_asm); (case k3 => k_asm); (case k4 => k_asm); (case k5 => k_asm); (case k6 => k_is); (case k7 => k_is); (case k8 => ktr_room); (case k9 => first | exact BindsTo.of_eq rfl | exact binds_K (by k_in) rfl (by k_is) rfl rfl rfl | fail "k_enter: no rule for these arguments"); (case kB => exact rfl); (case kD => decide +kernel); (case c2 => exact rfl); (case c3 => exact rfl); (case c4 => exact rfl); k_whole; intro g' L' h' tk' cells' FG' F' N' Y' B' X' T' l1; (try k_lt l1); k_cells Y'; (try simp only [List.cons_append, List.nil_append] at N'); (try dsimp only); (try k_lift B'); (try k_fold))))
  (repeat' (first | (k_unfold; (try dsimp only)) | (k_end; wrow_close) | ((with_reducible show LCp.SrcLP _ _ _ _ _ _ _ _ _ _ _ _ _ _ _); refine hold ?_) | ((with_reducible show wpAny _ _ (eval (PySem.Expr.ListComp _ _ _ _) _) _ _ _); (k_dflt (refine LCp.ListComp_P (F₀ := by k_asm) (by with_unfolding_all rfl) (by decide) (by rfl) (by decide) (by rfl) (by rfl) (by decide) ?_))) | ((with_reducible show wpAny _ _ (exec (Stmt.FunctionDef _ _ _ _ _ _ _ _ _ _) _) _ _ _); (k_dflt (refine' nestDef_K ?d0 ?k0 ?a0 ?_; (case d0 => exact rfl); (case k0 => exact rfl); (case a0 => exact rfl)); k_dflt (refine' def_tab ?F ?N ?T ?C rfl ?U ?hT rfl ?_; (case F => k_asm); (case N => k_asm); (case T => k_asm); (case C => kn_code); (case U => k_updF); (case hT => exact hTab)); intro f' c' oc' vs' t' ct' dc' ps' tl' h' tk' F' N' hm' d1' d2' hst' hfu' hfs' ltl' lf'; (try dsimp only at N'); (replace N' := mv6 N'))) | ((with_reducible show wpAny _ _ (call (Value.type "dict") _) _ _ _); (k_dflt (refine dict_zip (by k_asm) (by k_asm) (by with_reducible assumption) (by lcg_src) (Top.nolimit (by k_asm)) (by rfl) ?_); intro D' oD' h' tk' F' N' l1 lo' hd')) | ((with_reducible show wpAny _ _ (call (Value.type "zip") _) _ _ _); (k_dflt (refine zip_K (by k_asm) (by k_asm) (by lcg_src) (by lcg_src) ?_); intro iZ h' F' N' lZ)) | ((with_reducible show wpAny _ _ (getAttr (Value.ref _) _ _) _ _ _); (k_dflt (refine' get_own ?k1 ?k2 ?k3 ?k4 ?k5 ?k6 ?k7 ?k8 ?k9 ?_; (case k1 => k_asm); (case k2 => k_asm); (case k3 => exact InstAt.of_news (by k_asm) (by lcg_src) (by lcg_src)); (case k4 => k_is); (case k5 => k_is); (case k6 => k_is); (case k7 => k_is); (case k8 => k_get); (case k9 => k_handed); k_whole))) | (((with_reducible show wpAny _ _ (subscriptTail _ (PySem.Expr.Name _ _) (Value.ref _) (Value.int _ _)) _ _ _); k_dflt (refine item_listG (by k_asm) (by lcg_src) (by with_reducible assumption) (by with_reducible assumption) ?_))) | (((with_reducible show wpAny _ _ (subscriptTail _ _ (Value.ref _) (Value.str _ _)) _ _ _); k_dflt (refine kda_item (knd := strKind _ _) (by k_asm) (by lcg_src) (by with_reducible assumption) (strKind_is _ _ _ _) (by with_reducible assumption) ?_))) | (((with_reducible show wpAny _ _ (subscriptTail _ _ (Value.ref _) (Value.int 3 _)) _ _ _); k_dflt (refine item_at3 (by k_asm) (by lcg_src) ?_))) | (((with_reducible show wpAny _ _ (subscriptTail _ _ (Value.ref _) (Value.int 2 _)) _ _ _); k_dflt (refine item_at2 (by k_asm) (by lcg_src) ?_))) | (((with_reducible show wpAny _ _ (subscriptTail _ _ (Value.ref _) (Value.int 1 _)) _ _ _); k_dflt (refine item_at1 (by k_asm) (by lcg_src) ?_))) | (((with_reducible show wpAny _ _ (subscriptTail _ _ (Value.ref _) (Value.int 0 _)) _ _ _); k_dflt (refine item_at0 (by k_asm) (by lcg_src) ?_))) | ((with_reducible show wpAny _ _ (storeName _ _ _) _ _ _); (k_dflt (refine store_o (by k_asm) (by k_asm) ?_ (by first | exact rfl | assumption) (by rfl)); intro hw7 mw7 Fw7 Nw7)) | ((with_reducible show wpAny _ _ (eval (PySem.Expr.Call (PySem.Expr.Name _ _) (_ :: _) [] _) _) _ _ _); (k_dflt (refine call_svs (by rfl) (by first | exact rfl | assumption) (by k_asm) (by k_asm) (by k_asm) (by k_is) (by k_is) (by rfl) ?_))) | ((with_reducible show wpAny _ _ (eval (PySem.Expr.Subscript _ _ _) _) _ _ _); (k_dflt (refine sub_sv (by rfl) (by first | exact rfl | assumption) (by k_asm) (by rfl) (by rfl) ?_))) | ((with_reducible show wpAny _ _ (PySem.isTrue (PySem.Expr.Compare _ [_] [_] _) _ _) _ _ _); (k_dflt (first | refine isTrue_sv (by rfl) (by first | exact rfl | assumption) (by k_asm) (by rfl) (by rfl) ?_ | refine isTrue_sub (by rfl) (by first | exact rfl | assumption) (by k_asm) (by rfl) (by rfl) ?_); (try dsimp only))) | ((with_reducible show wpAny _ _ (execs [] _) _ _ _); ((with_reducible refine Mine.gen_tok ?_); intro tk; (with_reducible refine wpAny_execs_nil ?_); (try dsimp only))) | ((with_reducible show wpAny _ _ (execs (_ :: _) _) _ _ _); ((with_reducible refine Mine.gen_tok ?_); intro tk; (with_reducible refine wpAny_execs_cons ?_); (try dsimp only))) | walk1 | (dsimp only; walk1) | (leave1; walk_say "STEP leave1"; try dsimp only) | fail "no step"))
  unfold Hold
  have hfs := hF.len
  have N0 := napp_nil (by k_asm)
  refine LCp.SrcLP.ledger (by rfl) (by k_asm) N0 (by lcg_src) (by rw [sizeLine_eq, ← Array.length_toList, hfs]; omega) fun g1 => ?_
  refine restP_ind (Row := fun i v₁ v₂ => (∃ nm u, v₁ = .str nm u) ∧ ∃ d, TyAt rst v₂ d ∧ ds[i]? = some d) (Inv := fun i zs tl => FldsAt (tl ++ rst) zs (ds.take i)) ?hrow ?hS ?turn ?fin _ 0 [] [] (Nat.zero_add _) .nil lt_nil
  case hrow =>
    intro i v e
    obtain ⟨t9, nm9, u9, ty9, k9, d9, e1, e2, e3, e4⟩ := hF.at (by simpa using e)
    exact ⟨t9, _, ty9, k9, e1, by lcg_src, ⟨_, _, rfl⟩, d9, e3, e4⟩
  case hS => exact fun tl => .inr ⟨_, List.mem_append_left _ (by lcg_src), rfl, _, rfl⟩
  case turn =>
    intro i zs tl v1 v2 I oI C oC D m2 h tk Q1 E1 hRow hInv hC hx1 hx2 F' N' ret1
    obtain ⟨⟨nm9, u9, rfl⟩, d9, hT9, hd9⟩ := hRow
    obtain ⟨x9, hd9', t9, r9, k9, rfl, hm9, hL9⟩ := hT9.leaf
    (repeat' (first | (k_unfold; (try dsimp only)) | (k_end; wrow_close) | (((with_reducible show wpAny _ _ (call (Value.ref 80) [Value.ref _, _]) _ _ _); k_dflt (refine subst_leaf (by k_asm) (by k_asm) (by k_asm) (by k_asm) (by k_asm) (by first | exact rfl | assumption) (by lcg_src) (by with_reducible assumption) (by ktr_room) (by ktr_units) ?_); intro h' tk' F' N')) | (((with_reducible show wpAny _ _ (call (Value.ref 85) [Value.ref _, _]) _ _ _); k_dflt (refine with_leaf (by k_asm) (by k_asm) (by k_asm) (by k_asm) (by k_asm) (by first | exact rfl | assumption) (by lcg_src) (by with_reducible assumption) (by ktr_room) (by ktr_units) ?_); intro h' tk' F' N')) | ((with_reducible show wpAny _ _ (newTuple _) _ _ _); (k_dflt (refine tuple_o (by k_asm) (by k_asm) (by size_fits) ?_); intro Dw7 hw7 ow7 Fw7 Nw7 lw7)) | ((with_reducible show wpAny _ _ (callWith _ (Value.ref _) _ _ _) _ _ _); (k_here; k_dflt (first | refine' callWith_K ?k1 ?k2 ?_; (case k1 => k_asm); (case k2 => k_is); k_whole | refine' callWith_K0 ?k1 ?k2 ?_; (case k1 => k_in); (case k2 => k_is); k_whole); (try dsimp only [List.nil_append, List.append_nil]))) | walk1 | (dsimp only; walk1) | (leave1; walk_say "STEP leave1"; try dsimp only) | fail "no step"))
    exact ret1 _ [_] _ _ (by k_asm) (turn_one (by k_asm)) (lt_cons (by with_reducible assumption) lt_nil) (by
      rw [take_snoc hd9]
      exact (hInv.mono fun p hp => .tail _ hp).snoc (.head _) (hT9.mono fun p hp => .tail _ (List.mem_append_right _ hp)))
  case fin =>
    intro zs tl hInv ht9 D h tk F' N' off
    (repeat' (first | (k_unfold; (try dsimp only)) | (k_end; wrow_close) | walk1 | (dsimp only; walk1) | (leave1; walk_say "STEP leave1"; try dsimp only) | fail "no step"))
    have hn9 : ∀ p ∈ (94, tabObj ps') :: (tl' ++ rst), p.1 ≠ D := fun p hp => off1_mem off p (List.mem_append_left _ (by
      rcases List.mem_cons.mp hp with rfl | hp
      · lcg_src
      · lcg_src))
    refine ret D zs ps' ((D, LCg.lst zs) :: (tl ++ tl')) _ _ (by k_asm) (news_sub (by k_asm) fun p hp => ?_) (hst' _ _ _ _ (by rcases List.mem_append.mp hm' with hp | hp <;> lcg_src) d1' d2').1 ?_ (.head _) ?_ hfu' hfs'
    · simp only [List.mem_cons, List.mem_append] at hp
      rcases hp with rfl | (rfl | hp | hp) | hp
      · exact .tail _ (List.mem_append_left _ (by lcg_src))
      · exact .head _
      · exact .tail _ (List.mem_append_right _ hp)
      · exact .tail _ (List.mem_append_left _ (by lcg_src))
      · exact .tail _ (List.mem_append_left _ (by lcg_src))
    · have key : ∀ d : Addr, (∀ q ∈ (94, tabObj ps') :: (tl' ++ rst), q.1 ≠ d) → AllNe d ((94, tabObj ps) :: rst) := fun d z => allNe_of fun q hq => (by
        rcases List.mem_cons.mp hq with rfl | hq
        · exact Ne.symm (z (94, tabObj ps') (.head _))
        · exact Ne.symm (z _ (.tail _ (List.mem_append_right _ hq))))
      intro p hp
      rcases List.mem_cons.mp hp with rfl | hp
      · exact key _ hn9
      · rcases List.mem_append.mp hp with hp | hp
        · exact key _ fun q hq => Nat.ne_of_lt (allLt_get (ht9 p hp) q (by rcases List.mem_cons.mp hq with rfl | hq <;> lcg_src))
        · exact allNe_of fun q hq => Nat.ne_of_gt (allLt_get (ltl' p hp) q (by rcases List.mem_cons.mp hq with rfl | hq <;> lcg_src))
    · rw [List.take_of_length_le (by rw [← hfs, Array.length_toList]; exact Nat.le_refl _)] at hInv
      exact hInv.mono fun p hp => (by rcases List.mem_append.mp hp with hp | hp <;> lcg_src)
end Mine
end
section
namespace Mine
open PySem.Spec PySem.Calls
section
variable {prog : Program} {w : World} {A : Around} {E : Value → Shared → Prop} {s : Shared} {h₀ : Heap} {L : Addr} {m : Str → Option Value} {news : List (Addr × Obj)}
theorem isi_tt {x : Addr} {arr : Array Value} {k : Nat} {Q : Value → Shared → Prop} (N : News h₀ L s.heap news) (hm : (x, tup arr k) ∈ news) (h : Q (.bool true) s) :
    wpAny (model prog w) A (call (.builtin "isinstance") [.ref x, .type "tuple"]) Q E s := IsiPair.isTuple_tuple (h₀ := s.heap) ⟨_, N.get hm, rfl, _, rfl⟩ (fun _ _ e => e) h
theorem len_listG {l : Addr} {arr : Array Value} {k : Nat} {Q : Value → Shared → Prop} (N : News h₀ L s.heap news) (hm : (l, listOf arr k) ∈ news) (hz : arr.size ≤ 9) (h : Q (.int arr.size (s.toks + 1)) { s with toks := s.toks + 1 + 1 }) : wpAny (model prog w) A (call (.builtin "len") [.ref l]) Q E s :=
  len_list (items := arr) ⟨_, N.get hm, rfl, _, rfl⟩ (by omega) h
theorem len_tN {x : Addr} {its : List Value} {k : Nat} {n : Nat} {Q : Value → Shared → Prop} (N : News h₀ L s.heap news) (hm : (x, tup its.toArray k) ∈ news) (e : its.length = n) (hz : n ≤ 3) (h : Q (.int (n : Int) (s.toks + 1)) { s with toks := s.toks + 1 + 1 }) : wpAny (model prog w) A (call (.builtin "len") [.ref x]) Q E s :=
  len_tupL N hm (by omega) (by rw [e]; exact h)
theorem len_t1 {x : Addr} {a : Value} {k : Nat} {Q : Value → Shared → Prop} (N : News h₀ L s.heap news) (hm : (x, tup #[a] k) ∈ news) (h : Q (.int 1 (s.toks + 1)) { s with toks := s.toks + 1 + 1 }) : wpAny (model prog w) A (call (.builtin "len") [.ref x]) Q E s := len_tN (n := 1) N hm rfl (by decide) h
theorem len_t2 {x : Addr} {a b : Value} {k : Nat} {Q : Value → Shared → Prop} (N : News h₀ L s.heap news) (hm : (x, tup #[a, b] k) ∈ news) (h : Q (.int 2 (s.toks + 1)) { s with toks := s.toks + 1 + 1 }) : wpAny (model prog w) A (call (.builtin "len") [.ref x]) Q E s := len_tN (n := 2) N hm rfl (by decide) h
theorem len_t3 {x : Addr} {a b c : Value} {k : Nat} {Q : Value → Shared → Prop} (N : News h₀ L s.heap news) (hm : (x, tup #[a, b, c] k) ∈ news) (h : Q (.int 3 (s.toks + 1)) { s with toks := s.toks + 1 + 1 }) : wpAny (model prog w) A (call (.builtin "len") [.ref x]) Q E s := len_tN (n := 3) N hm rfl (by decide) h
theorem len_l1 {x : Addr} {a : Value} {k : Nat} {Q : Value → Shared → Prop} (N : News h₀ L s.heap news) (hm : (x, listOf #[a] k) ∈ news) (h : Q (.int 1 (s.toks + 1)) { s with toks := s.toks + 1 + 1 }) : wpAny (model prog w) A (call (.builtin "len") [.ref x]) Q E s := len_listG N hm (by simp) h
theorem listT {b : Addr} {vs : List Value} {k : Nat} {Q : Value → Shared → Prop} (F : Fr h₀ L s.heap m) (N : News h₀ L s.heap news) (hb : (b, tup vs.toArray k) ∈ news) (hz : vs.length ≤ 9)
    (h : ∀ D c h', Fr h₀ L h' m → News h₀ L h' ((D, listOf vs.toArray c) :: news) → AllLt D news → Q (.ref D) { s with heap := h' }) : wpAny (model prog w) A (call (.type "list") [.ref b]) Q E s :=
  kup_listOfT (its2 := vs.toArray) F N hb rfl (fun D c h' F' N' l => h D c h' F' N' (allLt_of l)) (by rw [sizeLine_eq, List.toList_toArray]; omega)
end
set_option maxRecDepth 100000 in
set_option maxHeartbeats 8000000 in
theorem no_value_ok {prog : Program} {w : World} {p : Program} {loose : List Str} {mean : ExcName → Option Value} {mg mb : Str → Option Value} {dp un : Nat} {gd : Option (List Code)} {cn : Str} {cs : Scope} {a : Addr} {ccd : Value} {cl : List (Str × Addr)} {outer : List Env} {A₀ : Around} {base h₀ : Heap} {L : Addr} {m : Str → Option Value} {s : Shared} {Q E : Value → Shared → Prop} {news : List (Addr × Obj)}
    (B : Below A₀ base outer h₀) (F : Fr h₀ L s.heap m) (X : (Mine.kmk.heap_1 w.params).In h₀) (N : News h₀ L s.heap news) (T : Top p loose mean mg mb h₀) (hk : cs.kind = .function) (hg : s.gens = #[]) (hb : base.get? 0 = some (bnObj w.params))
    (ret : ∀ e dd t od tk h' tk', Fr h₀ L h' m → News h₀ L h' ((e, excD 59 dd t) :: (dd, od) :: news) → (∀ q ∈ (dd, od) :: news, q.1 ≠ e) → lookIn "kind" od = some (some (.str "kind" tk)) → Q (.ref e) { s with heap := h', toks := tk' }) :
    wpAny (model prog w) (ktrTop 306 22 gd cn cs L a ccd cl outer) (call (.ref 133) []) Q E s := by
  refine wpAny_call ?_
  k_dflt ktr_enter
  (repeat' (first | (k_unfold; (try dsimp only)) | (k_end; wrow_close) | (((with_reducible show wpAny _ _ (call (Value.ref 59) _) _ _ _); k_dflt (refine top_le (dp' := 310) (un' := 30) (Nat.le_of_ble_eq_true rfl) (Nat.le_of_ble_eq_true rfl) (fault_K (dp := 0) (un := 0) (by k_asm) (by k_asm) (by k_asm) (by k_asm) (by k_asm) (by first | exact rfl | assumption) (by decide +kernel) (by decide +kernel) ?_)); intro e' dd' t' od' tke' h' tk' F' N' ne' hK')) | ((with_reducible show wpAny _ _ (eval (PySem.Expr.Call (PySem.Expr.Name _ _) (_ :: _) [] _) _) _ _ _); (k_dflt (refine call_svs (by rfl) (by first | exact rfl | assumption) (by k_asm) (by k_asm) (by k_asm) (by k_is) (by k_is) (by rfl) ?_))) | ((with_reducible show wpAny _ _ (execs (_ :: _) _) _ _ _); ((with_reducible refine Mine.gen_tok ?_); intro tk; (with_reducible refine wpAny_execs_cons ?_); (try dsimp only))) | walk1 | (dsimp only; walk1) | (leave1; walk_say "STEP leave1"; try dsimp only) | fail "no step"))
  exact ret _ _ _ _ _ _ _ (by k_asm) (by k_asm) (by with_reducible assumption) (by with_reducible assumption)
theorem news2 {h₀ h : Heap} {L : Addr} {l l' : List (Addr × Obj)} {a b : Addr × Obj} (N : News h₀ L h l) (ha : a ∈ l) (hb : b ∈ l) (s : ∀ p ∈ l', p ∈ l) : News h₀ L h (a :: b :: l') := fun p hp => N p (by
  rcases List.mem_cons.mp hp with rfl | hp
  · exact ha
  rcases List.mem_cons.mp hp with rfl | hp
  · exact hb
  exact s p hp)
theorem RsS.mono {base G : Heap} {l : List Env} {e : Addr} {cls : Value} {dd : Addr} {n n' : List (Addr × Obj)} {h : Heap} (R : RsS base G l e cls dd n h) (s : ∀ p ∈ n', p ∈ n) : RsS base G l e cls dd n' h := by
  obtain ⟨B, a, b, c, d⟩ := R
  exact ⟨B, a, b, fun q hq => c q (s q hq), d⟩
set_option maxRecDepth 100000 in
set_option maxHeartbeats 8000000 in
theorem told_tup {prog : Program} {w : World} {p : Program} {loose : List Str} {mean : ExcName → Option Value} {mg mb : Str → Option Value} {dp un : Nat} {gd : Option (List Code)} {cn : Str} {cs : Scope} {a : Addr} {ccd : Value} {cl : List (Str × Addr)} {outer : List Env} {A₀ : Around} {base h₀ : Heap} {L : Addr} {m : Str → Option Value} {s : Shared} {Q E : Value → Shared → Prop} {news : List (Addr × Obj)}
    (B : Below A₀ base outer h₀) (F : Fr h₀ L s.heap m) (X : (Mine.kmk.heap_1 w.params).In h₀) (N : News h₀ L s.heap news) (T : Top p loose mean mg mb h₀) (hk : cs.kind = .function) (hg : s.gens = #[]) (hb : base.get? 0 = some (bnObj w.params)) (XB : (Mine.kmk.heap_1 w.params).In base)
    {x tt p : Addr} {k k1 k2 : Nat} {t : Tok} {tys its : List Value} {wv : Value} (hx : (x, tup #[.str (Str.ofString "tuple") t, .ref tt] k) ∈ news) (ht : (tt, tup tys.toArray k1) ∈ news) (hp : (p, tup its.toArray k2) ∈ news) (hl1 : tys.length ≤ 9) (hl2 : its.length ≤ 3)
    (ret : its.length = tys.length → ∀ T l c kT h' tk', Fr h₀ L h' m → News h₀ L h' ((T, tup #[.none, .ref p, .ref l] kT) :: (l, listOf tys.toArray c) :: news) → AllLt T news → AllLt l news → Q (.ref T) { s with heap := h', toks := tk' })
    (bad : its.length ≠ tys.length → ∀ e dd od tk G h' tk', RsS base G (envX cn cs L a ccd cl :: outer) e (.ref 59) dd ((dd, od) :: news) h' → G.UpToSlots h' → lookIn "kind" od = some (some (.str "kind" tk)) → Fr h₀ L G m → E (.ref e) { s with heap := h', toks := tk' }) :
    wpAny (model prog w) (ktrTop 305 16 gd cn cs L a ccd cl outer) (call (.ref 138) [.ref p, .ref x, wv]) Q E s := by
  refine wpAny_call ?_
  k_dflt ktr_enter
  (repeat' (first | (k_unfold; (try dsimp only)) | (k_end; wrow_close) | ((with_reducible show wpAny _ _ (call (Value.builtin "len") [_]) _ _ _); (k_dflt (first | refine len_listG (by k_asm) (by lcg_src) (by simp only [List.size_toArray]; omega) ?_ | refine len_tupL (by k_asm) (by lcg_src) (by with_reducible assumption) ?_))) | ((with_reducible show wpAny _ _ (call (Value.type "list") [_]) _ _ _); (k_dflt (refine listT (by k_asm) (by k_asm) (by lcg_src) (by with_reducible assumption) ?_); intro DL cL h' F' N' lL)) | ((with_reducible show wpAny _ _ (call (Value.builtin "isinstance") [_, _]) _ _ _); (k_dflt (refine isi_tt (by k_asm) (by lcg_src) ?_))) | (((with_reducible show wpAny _ _ (subscriptTail _ _ (Value.ref _) (Value.int 1 _)) _ _ _); k_dflt (refine item_at1 (by k_asm) (by lcg_src) ?_))) | (((with_reducible show wpAny _ _ (subscriptTail _ _ (Value.ref _) (Value.int 0 _)) _ _ _); k_dflt (refine item_at0 (by k_asm) (by lcg_src) ?_))) | (((with_reducible show wpAny _ _ (call (Value.ref 133) _) _ _ _); k_dflt (refine top_le (dp' := 306) (un' := 22) (Nat.le_of_ble_eq_true rfl) (Nat.le_of_ble_eq_true rfl) (no_value_ok (dp := 0) (un := 0) (by k_asm) (by k_asm) (by k_asm) (by k_asm) (by k_asm) (by first | exact rfl | assumption) (by assumption) (by assumption) ?_)); intro e' dd' t' od' tke' h' tk' F' N' ne' hK')) | ((with_reducible show wpAny _ _ (leaving _ (Value.ref _)) _ _ _); (k_dflt (refine leave_raiseDS (by k_asm) (by rfl) (by rfl) (by k_asm) (by k_asm) (by with_reducible assumption) ⟨rfl, rfl⟩ rfl rfl ?_); intro h' R' U')) | ((with_reducible show RaiseEnd _ _ _ _); (k_dflt (refine raise_end (by k_asm) (by k_asm) (by k_asm) ?_))) | ((with_reducible show wpAny _ _ (exec (Stmt.Raise (some _) none _) _) _ _ _); (k_dflt (refine raise_at (by k_asm) (by assumption) (by rfl) ?_))) | ((with_reducible show wpAny _ _ (storeName _ _ _) _ _ _); (k_dflt (refine store_o (by k_asm) (by k_asm) ?_ (by first | exact rfl | assumption) (by rfl)); intro hw7 mw7 Fw7 Nw7)) | ((with_reducible show wpAny _ _ (eval (PySem.Expr.Subscript _ _ _) _) _ _ _); (k_dflt (refine sub_sv (by rfl) (by first | exact rfl | assumption) (by k_asm) (by rfl) (by rfl) ?_))) | ((with_reducible show wpAny _ _ (PySem.isTrue (PySem.Expr.Compare _ [_] [_] _) _ _) _ _ _); (k_dflt (first | refine isTrue_sv (by rfl) (by first | exact rfl | assumption) (by k_asm) (by rfl) (by rfl) ?_ | refine isTrue_sub (by rfl) (by first | exact rfl | assumption) (by k_asm) (by rfl) (by rfl) ?_); (try dsimp only))) | ((with_reducible show wpAny _ _ (eval (PySem.Expr.Tuple _ _ _) _) _ _ _); (k_dflt (refine tuple_svs (by rfl) (by first | exact rfl | assumption) (by k_asm) (by k_asm) (by rfl) (by size_fits) ?_); intro Dw7 hw7 ow7 Fw7 Nw7 lw7)) | ((with_reducible show wpAny _ _ (spliced (backTo _ (starEach (_ :: _) _))) _ _ _); (k_dflt (refine spl_g (by rfl) (by first | exact rfl | assumption) (by k_asm) (by rfl) ?_))) | ((with_reducible show wpAny _ _ (callWith _ (Value.ref _) _ _ _) _ _ _); (k_here; k_dflt (first | refine' callWith_K ?k1 ?k2 ?_; (case k1 => k_asm); (case k2 => k_is); k_whole | refine' callWith_K0 ?k1 ?k2 ?_; (case k1 => k_in); (case k2 => k_is); k_whole); (try dsimp only [List.nil_append, List.append_nil]))) | ((with_reducible show wpAny _ _ (execs [] _) _ _ _); ((with_reducible refine Mine.gen_tok ?_); intro tk; (with_reducible refine wpAny_execs_nil ?_); (try dsimp only))) | ((with_reducible show wpAny _ _ (execs (_ :: _) _) _ _ _); ((with_reducible refine Mine.gen_tok ?_); intro tk; (with_reducible refine wpAny_execs_cons ?_); (try dsimp only))) | walk1 | (dsimp only; walk1) | (leave1; walk_say "STEP leave1"; try dsimp only) | fail "no step"))
  · exact bad (by clear ret bad; simp only [List.size_toArray] at *; omega) _ _ _ _ _ _ _ (RsS.mono (by with_reducible assumption) (by intro p hp; rcases List.mem_cons.mp hp with rfl | hp <;> lcg_src)) (by with_reducible assumption) (by with_reducible assumption) (by k_asm)
  · exact ret (by clear ret bad; simp only [List.size_toArray] at *; omega) _ _ _ _ _ _ (by k_asm) (news2 (by k_asm) (by lcg_src) (by lcg_src) (by intro p hp; lcg_src)) (by kaf_suf) (by kaf_suf)
end Mine
end
section
namespace Mine
open PySem.Spec PySem.Calls

section
variable {prog : Program} {w : World} {A : Around} {E : Value → Shared → Prop} {s : Shared} {h₀ : Heap} {L : Addr} {m : Str → Option Value} {news : List (Addr × Obj)}
theorem mul_one {l : Addr} {v : Value} {c n : Nat} {u : Tok} {Q : Value → Shared → Prop} (F : Fr h₀ L s.heap m) (N : News h₀ L s.heap news) (hm : (l, listOf #[v] c) ∈ news) (hn : n ≤ 9)
    (h : ∀ D h', Fr h₀ L h' m → News h₀ L h' ((D, listOf (List.replicate n v).toArray 0) :: news) → AllLt D news → Q (.ref D) { s with heap := h' }) : wpAny (model prog w) A (binaryOp .Mult (.ref l) (.int (n : Int) u)) Q E s :=
  KMa.mul (vs := [v]) (ws := List.replicate n v) F N ⟨_, N.get hm, rfl, _, rfl⟩ (by omega) (by omega) (by simp; omega) (by simp [List.flatten_replicate_singleton]) fun D h' F' N' l => h D h' F' N' (allLt_of l)
inductive NotTup (n : List (Addr × Obj)) : Value → Prop
  | int {i t} : NotTup n (.int i t)
  | bool {b} : NotTup n (.bool b)
  | list {l arr k} : (l, listOf arr k) ∈ n → NotTup n (.ref l)
theorem NotTup.mono {n n' : List (Addr × Obj)} {v : Value} (h : NotTup n v) (s : ∀ p ∈ n, p ∈ n') : NotTup n' v := by
  cases h with
  | int => exact .int
  | bool => exact .bool
  | list a => exact .list (s _ a)
theorem isi_nt {v : Value} {Q : Value → Shared → Prop} (N : News h₀ L s.heap news) (hv : NotTup news v) (h : Q (.bool false) { s with toks := s.toks + 1 }) :
    wpAny (model prog w) A (call (.builtin "isinstance") [v, .type "tuple"]) Q E s := by
  cases hv with
  | int => exact IsiPair.int_tuple h
  | bool => exact IsiPair.bool_tuple h
  | list a => exact IsiPair.isList_tuple (h₀ := s.heap) ⟨_, N.get a, rfl, _, rfl⟩ (fun _ _ e => e) h
end
set_option maxRecDepth 100000 in
set_option maxHeartbeats 8000000 in
theorem told_arr {prog : Program} {w : World} {p : Program} {loose : List Str} {mean : ExcName → Option Value} {mg mb : Str → Option Value} {dp un : Nat} {gd : Option (List Code)} {cn : Str} {cs : Scope} {a : Addr} {ccd : Value} {cl : List (Str × Addr)} {outer : List Env} {A₀ : Around} {base h₀ : Heap} {L : Addr} {m : Str → Option Value} {s : Shared} {Q E : Value → Shared → Prop} {news : List (Addr × Obj)}
    (B : Below A₀ base outer h₀) (F : Fr h₀ L s.heap m) (X : (Mine.kmk.heap_1 w.params).In h₀) (N : News h₀ L s.heap news) (T : Top p loose mean mg mb h₀) (hk : cs.kind = .function) (hg : s.gens = #[]) (hb : base.get? 0 = some (bnObj w.params)) (XB : (Mine.kmk.heap_1 w.params).In base)
    {x p : Addr} {k k2 n : Nat} {t u : Tok} {its : List Value} {ty wv : Value} (hx : (x, tup #[.str (Str.ofString "array") t, ty, .int (n : Int) u] k) ∈ news) (hp : (p, tup its.toArray k2) ∈ news) (hl1 : n ≤ 9) (hl2 : its.length ≤ 3)
    (ret : its.length = n → ∀ T l c kT h' tk', Fr h₀ L h' m → News h₀ L h' ((T, tup #[.none, .ref p, .ref l] kT) :: (l, listOf (List.replicate n ty).toArray c) :: news) → AllLt T news → AllLt l news → Q (.ref T) { s with heap := h', toks := tk' })
    (bad : its.length ≠ n → ∀ e dd od tk G h' tk', RsS base G (envX cn cs L a ccd cl :: outer) e (.ref 59) dd ((dd, od) :: news) h' → G.UpToSlots h' → lookIn "kind" od = some (some (.str "kind" tk)) → Fr h₀ L G m → E (.ref e) { s with heap := h', toks := tk' }):
    wpAny (model prog w) (ktrTop 305 16 gd cn cs L a ccd cl outer) (call (.ref 138) [.ref p, .ref x, wv]) Q E s := by
  refine wpAny_call ?_
  k_dflt ktr_enter
  (repeat' (first | (k_unfold; (try dsimp only)) | (k_end; wrow_close) | ((with_reducible show wpAny _ _ (binaryOp Operator.Mult (Value.ref _) (Value.int _ _)) _ _ _); (k_dflt (refine mul_one (by k_asm) (by k_asm) (by lcg_src) (by with_reducible assumption) ?_); intro DL h' F' N' lL)) | ((with_reducible show wpAny _ _ (call (Value.builtin "len") [_]) _ _ _); (k_dflt (first | refine len_t2 (by k_asm) (by lcg_src) ?_ | refine len_t1 (by k_asm) (by lcg_src) ?_ | refine len_t3 (by k_asm) (by lcg_src) ?_ | refine len_l1 (by k_asm) (by lcg_src) ?_ | refine len_listG (by k_asm) (by lcg_src) (by (try simp only [List.size_toArray, List.length_replicate]); omega) ?_ | refine len_tupL (by k_asm) (by lcg_src) (by first | with_reducible assumption | exact Nat.le_of_ble_eq_true rfl) ?_))) | ((with_reducible show wpAny _ _ (call (Value.builtin "isinstance") [_, _]) _ _ _); (k_dflt (refine isi_tt (by k_asm) (by lcg_src) ?_))) | (((with_reducible show wpAny _ _ (subscriptTail _ _ (Value.ref _) (Value.int 2 _)) _ _ _); k_dflt (refine item_at2 (by k_asm) (by lcg_src) ?_))) | (((with_reducible show wpAny _ _ (subscriptTail _ _ (Value.ref _) (Value.int 1 _)) _ _ _); k_dflt (refine item_at1 (by k_asm) (by lcg_src) ?_))) | (((with_reducible show wpAny _ _ (subscriptTail _ _ (Value.ref _) (Value.int 0 _)) _ _ _); k_dflt (refine item_at0 (by k_asm) (by lcg_src) ?_))) | (((with_reducible show wpAny _ _ (call (Value.ref 133) _) _ _ _); k_dflt (refine top_le (dp' := 306) (un' := 22) (Nat.le_of_ble_eq_true rfl) (Nat.le_of_ble_eq_true rfl) (no_value_ok (dp := 0) (un := 0) (by k_asm) (by k_asm) (by k_asm) (by k_asm) (by k_asm) (by first | exact rfl | assumption) (by assumption) (by assumption) ?_)); intro e' dd' t' od' tke' h' tk' F' N' ne' hK')) | ((with_reducible show wpAny _ _ (leaving _ (Value.ref _)) _ _ _); (k_dflt (refine leave_raiseDS (by k_asm) (by rfl) (by rfl) (by k_asm) (by k_asm) (by with_reducible assumption) ⟨rfl, rfl⟩ rfl rfl ?_); intro h' R' U')) | ((with_reducible show RaiseEnd _ _ _ _); (k_dflt (refine raise_end (by k_asm) (by k_asm) (by k_asm) ?_))) | ((with_reducible show wpAny _ _ (exec (Stmt.Raise (some _) none _) _) _ _ _); (k_dflt (refine raise_at (by k_asm) (by assumption) (by rfl) ?_))) | ((with_reducible show wpAny _ _ (storeName _ _ _) _ _ _); (k_dflt (refine store_o (by k_asm) (by k_asm) ?_ (by first | exact rfl | assumption) (by rfl)); intro hw7 mw7 Fw7 Nw7)) | ((with_reducible show wpAny _ _ (newList _) _ _ _); (k_dflt (refine list_o (by k_asm) (by k_asm) (by size_fits) ?_); intro Dw7 hw7 ow7 Fw7 Nw7 lw7)) | ((with_reducible show wpAny _ _ (eval (PySem.Expr.Subscript _ _ _) _) _ _ _); (k_dflt (refine sub_sv (by rfl) (by first | exact rfl | assumption) (by k_asm) (by rfl) (by rfl) ?_))) | ((with_reducible show wpAny _ _ (PySem.isTrue (PySem.Expr.Compare _ [_] [_] _) _ _) _ _ _); (k_dflt (first | refine isTrue_sv (by rfl) (by first | exact rfl | assumption) (by k_asm) (by rfl) (by rfl) ?_ | refine isTrue_sub (by rfl) (by first | exact rfl | assumption) (by k_asm) (by rfl) (by rfl) ?_); (try dsimp only))) | ((with_reducible show wpAny _ _ (eval (PySem.Expr.Tuple _ _ _) _) _ _ _); (k_dflt (refine tuple_svs (by rfl) (by first | exact rfl | assumption) (by k_asm) (by k_asm) (by rfl) (by size_fits) ?_); intro Dw7 hw7 ow7 Fw7 Nw7 lw7)) | ((with_reducible show wpAny _ _ (spliced (backTo _ (starEach (_ :: _) _))) _ _ _); (k_dflt (refine spl_g (by rfl) (by first | exact rfl | assumption) (by k_asm) (by rfl) ?_))) | ((with_reducible show wpAny _ _ (callWith _ (Value.ref _) _ _ _) _ _ _); (k_here; k_dflt (first | refine' callWith_K ?k1 ?k2 ?_; (case k1 => k_asm); (case k2 => k_is); k_whole | refine' callWith_K0 ?k1 ?k2 ?_; (case k1 => k_in); (case k2 => k_is); k_whole); (try dsimp only [List.nil_append, List.append_nil]))) | ((with_reducible show wpAny _ _ (execs [] _) _ _ _); ((with_reducible refine Mine.gen_tok ?_); intro tk; (with_reducible refine wpAny_execs_nil ?_); (try dsimp only))) | ((with_reducible show wpAny _ _ (execs (_ :: _) _) _ _ _); ((with_reducible refine Mine.gen_tok ?_); intro tk; (with_reducible refine wpAny_execs_cons ?_); (try dsimp only))) | walk1 | (dsimp only; walk1) | (leave1; walk_say "STEP leave1"; try dsimp only) | fail "no step"))
  · exact bad (by clear ret bad; simp only [List.size_toArray, List.length_replicate] at *; omega) _ _ _ _ _ _ _ (RsS.mono (by with_reducible assumption) (by intro p hp; rcases List.mem_cons.mp hp with rfl | hp <;> lcg_src)) (by with_reducible assumption) (by with_reducible assumption) (by k_asm)
  · exact ret (by clear ret bad; simp only [List.size_toArray, List.length_replicate] at *; omega) _ _ _ _ _ _ (by k_asm) (news2 (by k_asm) (by lcg_src) (by lcg_src) (by intro p hp; lcg_src)) (by kaf_suf) (by kaf_suf)
set_option maxRecDepth 100000 in
set_option maxHeartbeats 8000000 in
theorem told_not {prog : Program} {w : World} {p : Program} {loose : List Str} {mean : ExcName → Option Value} {mg mb : Str → Option Value} {dp un : Nat} {gd : Option (List Code)} {cn : Str} {cs : Scope} {a : Addr} {ccd : Value} {cl : List (Str × Addr)} {outer : List Env} {A₀ : Around} {base h₀ : Heap} {L : Addr} {m : Str → Option Value} {s : Shared} {Q E : Value → Shared → Prop} {news : List (Addr × Obj)}
    (B : Below A₀ base outer h₀) (F : Fr h₀ L s.heap m) (X : (Mine.kmk.heap_1 w.params).In h₀) (N : News h₀ L s.heap news) (T : Top p loose mean mg mb h₀) (hk : cs.kind = .function) (hg : s.gens = #[]) (hb : base.get? 0 = some (bnObj w.params)) (XB : (Mine.kmk.heap_1 w.params).In base)
    {v T wv : Value} (hv : NotTup news v)
    (bad :  ∀ e dd od tk G h' tk', RsS base G (envX cn cs L a ccd cl :: outer) e (.ref 59) dd ((dd, od) :: news) h' → G.UpToSlots h' → lookIn "kind" od = some (some (.str "kind" tk)) → Fr h₀ L G m → E (.ref e) { s with heap := h', toks := tk' }):
    wpAny (model prog w) (ktrTop 305 16 gd cn cs L a ccd cl outer) (call (.ref 138) [v, T, wv]) Q E s := by
  refine wpAny_call ?_
  k_dflt ktr_enter
  (repeat' (first | (k_unfold; (try dsimp only)) | (k_end; wrow_close) | ((with_reducible show wpAny _ _ (call (Value.builtin "isinstance") [_, _]) _ _ _); (k_dflt (refine isi_nt (by k_asm) (by with_reducible assumption) ?_))) | (((with_reducible show wpAny _ _ (call (Value.ref 133) _) _ _ _); k_dflt (refine top_le (dp' := 306) (un' := 22) (Nat.le_of_ble_eq_true rfl) (Nat.le_of_ble_eq_true rfl) (no_value_ok (dp := 0) (un := 0) (by k_asm) (by k_asm) (by k_asm) (by k_asm) (by k_asm) (by first | exact rfl | assumption) (by assumption) (by assumption) ?_)); intro e' dd' t' od' tke' h' tk' F' N' ne' hK')) | ((with_reducible show wpAny _ _ (leaving _ (Value.ref _)) _ _ _); (k_dflt (refine leave_raiseDS (by k_asm) (by rfl) (by rfl) (by k_asm) (by k_asm) (by with_reducible assumption) ⟨rfl, rfl⟩ rfl rfl ?_); intro h' R' U')) | ((with_reducible show RaiseEnd _ _ _ _); (k_dflt (refine raise_end (by k_asm) (by k_asm) (by k_asm) ?_))) | ((with_reducible show wpAny _ _ (exec (Stmt.Raise (some _) none _) _) _ _ _); (k_dflt (refine raise_at (by k_asm) (by assumption) (by rfl) ?_))) | ((with_reducible show wpAny _ _ (callWith _ (Value.ref _) _ _ _) _ _ _); (k_here; k_dflt (first | refine' callWith_K ?k1 ?k2 ?_; (case k1 => k_asm); (case k2 => k_is); k_whole | refine' callWith_K0 ?k1 ?k2 ?_; (case k1 => k_in); (case k2 => k_is); k_whole); (try dsimp only [List.nil_append, List.append_nil]))) | ((with_reducible show wpAny _ _ (execs (_ :: _) _) _ _ _); ((with_reducible refine Mine.gen_tok ?_); intro tk; (with_reducible refine wpAny_execs_cons ?_); (try dsimp only))) | walk1 | (dsimp only; walk1) | (leave1; walk_say "STEP leave1"; try dsimp only) | fail "no step"))
  exact bad  _ _ _ _ _ _ _ (RsS.mono (by with_reducible assumption) (by intro p hp; rcases List.mem_cons.mp hp with rfl | hp <;> lcg_src)) (by with_reducible assumption) (by with_reducible assumption) (by k_asm)
end Mine
end
section
namespace Mine
open PySem.Spec PySem.Calls

inductive HeadB : Value → Bool → Prop
  | box {t} : HeadB (.str (Str.ofString "box") t) true
  | ref {t} : HeadB (.str (Str.ofString "ref") t) false
  | zero {t} : HeadB (.int 0 t) false
section
variable {prog : Program} {w : World} {A : Around} {E : Value → Shared → Prop} {s : Shared} {h₀ : Heap} {L : Addr} {m : Str → Option Value} {news : List (Addr × Obj)}
theorem in_two {x : Addr} {h a b : Str} {t1 t2 u : Tok} {k : Nat} {Q : Value → Shared → Prop} (N : News h₀ L s.heap news) (hm : (x, tup #[.str a t1, .str b t2] k) ∈ news) (hh : h = a ∨ h = b) (hq : Q (.bool true) s) : wpAny (model prog w) A (compareOp .In (.str h u) (.ref x)) Q E s :=
  in_tuple_strs (N.isTup hm) (.cons a t1 (.cons b t2 .nil)) (by rw [show ([a, b].any (· == h)) = true by rcases hh with rfl | rfl <;> simp]; exact hq)
theorem eq_headB {v : Value} {b : Bool} {u : Tok} {Q : Value → Shared → Prop} (hv : HeadB v b) (hu : A.units + 64 < cLine) (hq : Q (.bool b) s) : wpAny (model prog w) A (compareOp .Eq v (.str (Str.ofString "box") u)) Q E s := by
  cases hv with
  | box => exact eq_dataH (.str _ _) (.str _ u) (by decide +kernel) (by decide +kernel) hu (by rw [show PyData.eqv (.str (Str.ofString "box")) (.str (Str.ofString "box")) = true by decide +kernel]; exact hq)
  | ref => exact eq_dataH (.str _ _) (.str _ u) (by decide +kernel) (by decide +kernel) hu (by rw [show PyData.eqv (.str (Str.ofString "ref")) (.str (Str.ofString "box")) = false by decide +kernel]; exact hq)
  | zero => exact eq_dataH (.int _ _) (.str _ u) rfl (by decide +kernel) hu (by rw [show PyData.eqv (.int 0) (.str (Str.ofString "box")) = false by simp [PyData.eqv]]; exact hq)
end
set_option maxRecDepth 100000 in
set_option maxHeartbeats 8000000 in
theorem told_leaf {prog : Program} {w : World} {p : Program} {loose : List Str} {mean : ExcName → Option Value} {mg mb : Str → Option Value} {dp un : Nat} {gd : Option (List Code)} {cn : Str} {cs : Scope} {a : Addr} {ccd : Value} {cl : List (Str × Addr)} {outer : List Env} {A₀ : Around} {base h₀ : Heap} {L : Addr} {m : Str → Option Value} {s : Shared} {Q E : Value → Shared → Prop} {news : List (Addr × Obj)}
    (B : Below A₀ base outer h₀) (F : Fr h₀ L s.heap m) (X : (Mine.kmk.heap_1 w.params).In h₀) (N : News h₀ L s.heap news) (T : Top p loose mean mg mb h₀) (hk : cs.kind = .function) (hg : s.gens = #[]) (hb : base.get? 0 = some (bnObj w.params)) (XB : (Mine.kmk.heap_1 w.params).In base)
    {x p : Addr} {k k2 : Nat} {t u : Tok} {its : List Value} {wv : Value} (hx : (x, tup #[.str (Str.ofString "int") t, .str (Str.ofString "u8") u] k) ∈ news) (hp : (p, tup its.toArray k2) ∈ news)
    (bad :  ∀ e dd od tk G h' tk', RsS base G (envX cn cs L a ccd cl :: outer) e (.ref 59) dd ((dd, od) :: news) h' → G.UpToSlots h' → lookIn "kind" od = some (some (.str "kind" tk)) → Fr h₀ L G m → E (.ref e) { s with heap := h', toks := tk' }):
    wpAny (model prog w) (ktrTop 305 16 gd cn cs L a ccd cl outer) (call (.ref 138) [.ref p, .ref x, wv]) Q E s := by
  refine wpAny_call ?_
  k_dflt ktr_enter
  (repeat' (first | (k_unfold; (try dsimp only)) | (k_end; wrow_close) | ((with_reducible show wpAny _ _ (call (Value.builtin "isinstance") [_, _]) _ _ _); (k_dflt (refine isi_tt (by k_asm) (by lcg_src) ?_))) | (((with_reducible show wpAny _ _ (subscriptTail _ _ (Value.ref _) (Value.int 0 _)) _ _ _); k_dflt (refine item_at0 (by k_asm) (by lcg_src) ?_))) | (((with_reducible show wpAny _ _ (call (Value.ref 133) _) _ _ _); k_dflt (refine top_le (dp' := 306) (un' := 22) (Nat.le_of_ble_eq_true rfl) (Nat.le_of_ble_eq_true rfl) (no_value_ok (dp := 0) (un := 0) (by k_asm) (by k_asm) (by k_asm) (by k_asm) (by k_asm) (by first | exact rfl | assumption) (by assumption) (by assumption) ?_)); intro e' dd' t' od' tke' h' tk' F' N' ne' hK')) | ((with_reducible show wpAny _ _ (leaving _ (Value.ref _)) _ _ _); (k_dflt (refine leave_raiseDS (by k_asm) (by rfl) (by rfl) (by k_asm) (by k_asm) (by with_reducible assumption) ⟨rfl, rfl⟩ rfl rfl ?_); intro h' R' U')) | ((with_reducible show RaiseEnd _ _ _ _); (k_dflt (refine raise_end (by k_asm) (by k_asm) (by k_asm) ?_))) | ((with_reducible show wpAny _ _ (exec (Stmt.Raise (some _) none _) _) _ _ _); (k_dflt (refine raise_at (by k_asm) (by assumption) (by rfl) ?_))) | ((with_reducible show wpAny _ _ (storeName _ _ _) _ _ _); (k_dflt (refine store_o (by k_asm) (by k_asm) ?_ (by first | exact rfl | assumption) (by rfl)); intro hw7 mw7 Fw7 Nw7)) | ((with_reducible show wpAny _ _ (eval (PySem.Expr.Subscript _ _ _) _) _ _ _); (k_dflt (refine sub_sv (by rfl) (by first | exact rfl | assumption) (by k_asm) (by rfl) (by rfl) ?_))) | ((with_reducible show wpAny _ _ (PySem.isTrue (PySem.Expr.Compare _ [_] [_] _) _ _) _ _ _); (k_dflt (first | refine isTrue_sv (by rfl) (by first | exact rfl | assumption) (by k_asm) (by rfl) (by rfl) ?_ | refine isTrue_sub (by rfl) (by first | exact rfl | assumption) (by k_asm) (by rfl) (by rfl) ?_); (try dsimp only))) | ((with_reducible show wpAny _ _ (eval (PySem.Expr.Tuple _ _ _) _) _ _ _); (k_dflt (refine tuple_svs (by rfl) (by first | exact rfl | assumption) (by k_asm) (by k_asm) (by rfl) (by size_fits) ?_); intro Dw7 hw7 ow7 Fw7 Nw7 lw7)) | ((with_reducible show wpAny _ _ (callWith _ (Value.ref _) _ _ _) _ _ _); (k_here; k_dflt (first | refine' callWith_K ?k1 ?k2 ?_; (case k1 => k_asm); (case k2 => k_is); k_whole | refine' callWith_K0 ?k1 ?k2 ?_; (case k1 => k_in); (case k2 => k_is); k_whole); (try dsimp only [List.nil_append, List.append_nil]))) | ((with_reducible show wpAny _ _ (execs [] _) _ _ _); ((with_reducible refine Mine.gen_tok ?_); intro tk; (with_reducible refine wpAny_execs_nil ?_); (try dsimp only))) | ((with_reducible show wpAny _ _ (execs (_ :: _) _) _ _ _); ((with_reducible refine Mine.gen_tok ?_); intro tk; (with_reducible refine wpAny_execs_cons ?_); (try dsimp only))) | walk1 | (dsimp only; walk1) | (leave1; walk_say "STEP leave1"; try dsimp only) | fail "no step"))
  exact bad  _ _ _ _ _ _ _ (RsS.mono (by with_reducible assumption) (by intro p hp; rcases List.mem_cons.mp hp with rfl | hp <;> lcg_src)) (by with_reducible assumption) (by with_reducible assumption) (by k_asm)
theorem slice_tail2 {prog : Program} {w : World} {A : Around} {E : Value → Shared → Prop} {s : Shared} {h₀ : Heap} {L : Addr} {m : Str → Option Value} {news : List (Addr × Obj)} {value slice : PySem.Expr} {t : Addr} {v0 v1 : Value} {n : Nat} {u : Tok} {Q : Value → Shared → Prop}
    (F : Fr h₀ L s.heap m) (N : News h₀ L s.heap news) (hm : (t, tup #[v0, v1] n) ∈ news)
    (h : ∀ D h', Fr h₀ L h' m → News h₀ L h' ((D, tup #[v1] 0) :: news) → AllLt D news → Q (.ref D) { s with heap := h' })
    (hs : subscripted slice false (.ref t) (.ref s.heap.objs.size) = operate [.ref s.heap.objs.size, .ref t] (getItem (.ref t) (.ref s.heap.objs.size)) := by with_unfolding_all rfl)
    (hg : ∀ r, letTemporaryGo value (.ref t) r = pure () := by intro _; with_unfolding_all rfl) :
    wpAny (model prog w) A (subscriptTail value slice (.ref t) (.ref s.heap.objs.size)) Q E { s with heap := s.heap.push { cls := .type "slice", data := .fields #[.int 1 u, .none, .none] } } :=
  slice_from (a := 1) F N hm rfl (by decide) (by simp) (by simp) (fun D h' F' N' l => h D h' F' N' (allLt_of l)) hs hg
set_option maxRecDepth 100000 in
set_option maxHeartbeats 8000000 in
theorem told_box {prog : Program} {w : World} {p : Program} {loose : List Str} {mean : ExcName → Option Value} {mg mb : Str → Option Value} {dp un : Nat} {gd : Option (List Code)} {cn : Str} {cs : Scope} {a : Addr} {ccd : Value} {cl : List (Str × Addr)} {outer : List Env} {A₀ : Around} {base h₀ : Heap} {L : Addr} {m : Str → Option Value} {s : Shared} {Q E : Value → Shared → Prop} {news : List (Addr × Obj)}
    (B : Below A₀ base outer h₀) (F : Fr h₀ L s.heap m) (X : (Mine.kmk.heap_1 w.params).In h₀) (N : News h₀ L s.heap news) (T : Top p loose mean mg mb h₀) (hk : cs.kind = .function) (hg : s.gens = #[]) (hb : base.get? 0 = some (bnObj w.params)) (XB : (Mine.kmk.heap_1 w.params).In base)
    {x p : Addr} {k k2 : Nat} {t : Tok} {v0 v1 ty wv : Value} {bb : Bool} (hx : (x, tup #[.str (Str.ofString "box") t, ty] k) ∈ news) (hp : (p, tup #[v0, v1] k2) ∈ news) (hH : HeadB v0 bb)
    (ret : bb = true → ∀ T q l kq c kT h' tk', Fr h₀ L h' m → News h₀ L h' ((T, tup #[.none, .ref q, .ref l] kT) :: (q, tup #[v1] kq) :: (l, listOf #[ty] c) :: news) → AllLt T news → AllLt q news → AllLt l news → Q (.ref T) { s with heap := h', toks := tk' })
    (bad : bb = false → ∀ e dd od tk G h' tk', RsS base G (envX cn cs L a ccd cl :: outer) e (.ref 59) dd ((dd, od) :: news) h' → G.UpToSlots h' → lookIn "kind" od = some (some (.str "kind" tk)) → Fr h₀ L G m → E (.ref e) { s with heap := h', toks := tk' }):
    wpAny (model prog w) (ktrTop 305 16 gd cn cs L a ccd cl outer) (call (.ref 138) [.ref p, .ref x, wv]) Q E s := by
  refine wpAny_call ?_
  k_dflt ktr_enter
  (repeat' (first | (k_unfold; (try dsimp only)) | (k_end; wrow_close) | (((with_reducible show wpAny _ _ (compareOp CmpOp.Eq v0 (Value.str _ _)) _ _ _); k_dflt (refine eq_headB hH (by ktr_units) ?_); cases bb)) | ((with_reducible show wpAny _ _ (subscriptTail (PySem.Expr.Name _ _) (PySem.Expr.Slice _ _ _ _) (Value.ref _) (Value.ref _)) _ _ _); (k_dflt (refine slice_tail2 (by k_asm) (by k_asm) (by lcg_src) ?_); intro DS h' F' N' lS)) | ((with_reducible show wpAny _ _ (call (Value.builtin "len") [_]) _ _ _); (k_dflt (first | refine len_t2 (by k_asm) (by lcg_src) ?_ | refine len_t1 (by k_asm) (by lcg_src) ?_ | refine len_t3 (by k_asm) (by lcg_src) ?_ | refine len_l1 (by k_asm) (by lcg_src) ?_ | refine len_listG (by k_asm) (by lcg_src) (by (try simp only [List.size_toArray, List.length_replicate]); omega) ?_ | refine len_tupL (by k_asm) (by lcg_src) (by first | with_reducible assumption | exact Nat.le_of_ble_eq_true rfl) ?_))) | ((with_reducible show wpAny _ _ (call (Value.builtin "isinstance") [_, _]) _ _ _); (k_dflt (refine isi_tt (by k_asm) (by lcg_src) ?_))) | (((with_reducible show wpAny _ _ (subscriptTail _ _ (Value.ref _) (Value.int 1 _)) _ _ _); k_dflt (refine item_at1 (by k_asm) (by lcg_src) ?_))) | (((with_reducible show wpAny _ _ (subscriptTail _ _ (Value.ref _) (Value.int 0 _)) _ _ _); k_dflt (refine item_at0 (by k_asm) (by lcg_src) ?_))) | (((with_reducible show wpAny _ _ (call (Value.ref 133) _) _ _ _); k_dflt (refine top_le (dp' := 306) (un' := 22) (Nat.le_of_ble_eq_true rfl) (Nat.le_of_ble_eq_true rfl) (no_value_ok (dp := 0) (un := 0) (by k_asm) (by k_asm) (by k_asm) (by k_asm) (by k_asm) (by first | exact rfl | assumption) (by assumption) (by assumption) ?_)); intro e' dd' t' od' tke' h' tk' F' N' ne' hK')) | ((with_reducible show wpAny _ _ (leaving _ (Value.ref _)) _ _ _); (k_dflt (refine leave_raiseDS (by k_asm) (by rfl) (by rfl) (by k_asm) (by k_asm) (by with_reducible assumption) ⟨rfl, rfl⟩ rfl rfl ?_); intro h' R' U')) | ((with_reducible show RaiseEnd _ _ _ _); (k_dflt (refine raise_end (by k_asm) (by k_asm) (by k_asm) ?_))) | ((with_reducible show wpAny _ _ (exec (Stmt.Raise (some _) none _) _) _ _ _); (k_dflt (refine raise_at (by k_asm) (by assumption) (by rfl) ?_))) | ((with_reducible show wpAny _ _ (storeName _ _ _) _ _ _); (k_dflt (refine store_o (by k_asm) (by k_asm) ?_ (by first | exact rfl | assumption) (by rfl)); intro hw7 mw7 Fw7 Nw7)) | ((with_reducible show wpAny _ _ (newList _) _ _ _); (k_dflt (refine list_o (by k_asm) (by k_asm) (by size_fits) ?_); intro Dw7 hw7 ow7 Fw7 Nw7 lw7)) | ((with_reducible show wpAny _ _ (newTuple _) _ _ _); (k_dflt (refine tuple_o (by k_asm) (by k_asm) (by size_fits) ?_); intro Dw7 hw7 ow7 Fw7 Nw7 lw7)) | ((with_reducible show wpAny _ _ (eval (PySem.Expr.Subscript _ _ _) _) _ _ _); (k_dflt (refine sub_sv (by rfl) (by first | exact rfl | assumption) (by k_asm) (by rfl) (by rfl) ?_))) | ((with_reducible show wpAny _ _ (PySem.isTrue (PySem.Expr.Compare _ [_] [_] _) _ _) _ _ _); (k_dflt (first | refine isTrue_sv (by rfl) (by first | exact rfl | assumption) (by k_asm) (by rfl) (by rfl) ?_ | refine isTrue_sub (by rfl) (by first | exact rfl | assumption) (by k_asm) (by rfl) (by rfl) ?_); (try dsimp only))) | ((with_reducible show wpAny _ _ (eval (PySem.Expr.Tuple _ _ _) _) _ _ _); (k_dflt (refine tuple_svs (by rfl) (by first | exact rfl | assumption) (by k_asm) (by k_asm) (by rfl) (by size_fits) ?_); intro Dw7 hw7 ow7 Fw7 Nw7 lw7)) | ((with_reducible show wpAny _ _ (spliced (backTo _ (starEach (_ :: _) _))) _ _ _); (k_dflt (refine spl_g (by rfl) (by first | exact rfl | assumption) (by k_asm) (by rfl) ?_))) | ((with_reducible show wpAny _ _ (callWith _ (Value.ref _) _ _ _) _ _ _); (k_here; k_dflt (first | refine' callWith_K ?k1 ?k2 ?_; (case k1 => k_asm); (case k2 => k_is); k_whole | refine' callWith_K0 ?k1 ?k2 ?_; (case k1 => k_in); (case k2 => k_is); k_whole); (try dsimp only [List.nil_append, List.append_nil]))) | ((with_reducible show wpAny _ _ (execs [] _) _ _ _); ((with_reducible refine Mine.gen_tok ?_); intro tk; (with_reducible refine wpAny_execs_nil ?_); (try dsimp only))) | ((with_reducible show wpAny _ _ (execs (_ :: _) _) _ _ _); ((with_reducible refine Mine.gen_tok ?_); intro tk; (with_reducible refine wpAny_execs_cons ?_); (try dsimp only))) | walk1 | (dsimp only; walk1) | (leave1; walk_say "STEP leave1"; try dsimp only) | fail "no step"))
  · exact bad rfl _ _ _ _ _ _ _ (RsS.mono (by with_reducible assumption) (by intro p hp; rcases List.mem_cons.mp hp with rfl | hp <;> lcg_src)) (by with_reducible assumption) (by with_reducible assumption) (by k_asm)
  · exact ret rfl _ _ _ _ _ _ _ _ (by k_asm) (news3 (by k_asm) (by lcg_src) (by lcg_src) (by lcg_src) (by intro p hp; lcg_src)) (by kaf_suf) (by kaf_suf) (by kaf_suf)
set_option maxRecDepth 100000 in
set_option maxHeartbeats 8000000 in
theorem told_len {prog : Program} {w : World} {p : Program} {loose : List Str} {mean : ExcName → Option Value} {mg mb : Str → Option Value} {dp un : Nat} {gd : Option (List Code)} {cn : Str} {cs : Scope} {a : Addr} {ccd : Value} {cl : List (Str × Addr)} {outer : List Env} {A₀ : Around} {base h₀ : Heap} {L : Addr} {m : Str → Option Value} {s : Shared} {Q E : Value → Shared → Prop} {news : List (Addr × Obj)}
    (B : Below A₀ base outer h₀) (F : Fr h₀ L s.heap m) (X : (Mine.kmk.heap_1 w.params).In h₀) (N : News h₀ L s.heap news) (T : Top p loose mean mg mb h₀) (hk : cs.kind = .function) (hg : s.gens = #[]) (hb : base.get? 0 = some (bnObj w.params)) (XB : (Mine.kmk.heap_1 w.params).In base)
    {x p : Addr} {k k2 : Nat} {h : Str} {t : Tok} {v0 v1 v2 : Value} {r : List Value} {wv : Value} (hx : (x, tup (.str h t :: r).toArray k) ∈ news) (hp : (p, tup #[v0, v1, v2] k2) ∈ news) (hh : h = Str.ofString "box" ∨ h = Str.ofString "adt")
    (bad :  ∀ e dd od tk G h' tk', RsS base G (envX cn cs L a ccd cl :: outer) e (.ref 59) dd ((dd, od) :: news) h' → G.UpToSlots h' → lookIn "kind" od = some (some (.str "kind" tk)) → Fr h₀ L G m → E (.ref e) { s with heap := h', toks := tk' }):
    wpAny (model prog w) (ktrTop 305 16 gd cn cs L a ccd cl outer) (call (.ref 138) [.ref p, .ref x, wv]) Q E s := by
  refine wpAny_call ?_
  k_dflt ktr_enter
  (repeat' (first | (k_unfold; (try dsimp only)) | (k_end; wrow_close) | ((with_reducible show wpAny _ _ (compareOp CmpOp.In _ _) _ _ _); (k_dflt (refine in_two (by k_asm) (by lcg_src) hh ?_))) | ((with_reducible show wpAny _ _ (call (Value.builtin "len") [_]) _ _ _); (k_dflt (first | refine len_t2 (by k_asm) (by lcg_src) ?_ | refine len_t1 (by k_asm) (by lcg_src) ?_ | refine len_t3 (by k_asm) (by lcg_src) ?_ | refine len_l1 (by k_asm) (by lcg_src) ?_ | refine len_listG (by k_asm) (by lcg_src) (by (try simp only [List.size_toArray, List.length_replicate]); omega) ?_ | refine len_tupL (by k_asm) (by lcg_src) (by first | with_reducible assumption | exact Nat.le_of_ble_eq_true rfl) ?_))) | ((with_reducible show wpAny _ _ (call (Value.builtin "isinstance") [_, _]) _ _ _); (k_dflt (refine isi_tt (by k_asm) (by lcg_src) ?_))) | (((with_reducible show wpAny _ _ (subscriptTail _ _ (Value.ref _) (Value.int 0 _)) _ _ _); k_dflt (refine item_at0 (by k_asm) (by lcg_src) ?_))) | (((with_reducible show wpAny _ _ (call (Value.ref 133) _) _ _ _); k_dflt (refine top_le (dp' := 306) (un' := 22) (Nat.le_of_ble_eq_true rfl) (Nat.le_of_ble_eq_true rfl) (no_value_ok (dp := 0) (un := 0) (by k_asm) (by k_asm) (by k_asm) (by k_asm) (by k_asm) (by first | exact rfl | assumption) (by assumption) (by assumption) ?_)); intro e' dd' t' od' tke' h' tk' F' N' ne' hK')) | ((with_reducible show wpAny _ _ (leaving _ (Value.ref _)) _ _ _); (k_dflt (refine leave_raiseDS (by k_asm) (by rfl) (by rfl) (by k_asm) (by k_asm) (by with_reducible assumption) ⟨rfl, rfl⟩ rfl rfl ?_); intro h' R' U')) | ((with_reducible show RaiseEnd _ _ _ _); (k_dflt (refine raise_end (by k_asm) (by k_asm) (by k_asm) ?_))) | ((with_reducible show wpAny _ _ (exec (Stmt.Raise (some _) none _) _) _ _ _); (k_dflt (refine raise_at (by k_asm) (by assumption) (by rfl) ?_))) | ((with_reducible show wpAny _ _ (eval (PySem.Expr.Subscript _ _ _) _) _ _ _); (k_dflt (refine sub_sv (by rfl) (by first | exact rfl | assumption) (by k_asm) (by rfl) (by rfl) ?_))) | ((with_reducible show wpAny _ _ (eval (PySem.Expr.Tuple _ _ _) _) _ _ _); (k_dflt (refine tuple_svs (by rfl) (by first | exact rfl | assumption) (by k_asm) (by k_asm) (by rfl) (by size_fits) ?_); intro Dw7 hw7 ow7 Fw7 Nw7 lw7)) | ((with_reducible show wpAny _ _ (spliced (backTo _ (starEach (_ :: _) _))) _ _ _); (k_dflt (refine spl_g (by rfl) (by first | exact rfl | assumption) (by k_asm) (by rfl) ?_))) | ((with_reducible show wpAny _ _ (callWith _ (Value.ref _) _ _ _) _ _ _); (k_here; k_dflt (first | refine' callWith_K ?k1 ?k2 ?_; (case k1 => k_asm); (case k2 => k_is); k_whole | refine' callWith_K0 ?k1 ?k2 ?_; (case k1 => k_in); (case k2 => k_is); k_whole); (try dsimp only [List.nil_append, List.append_nil]))) | ((with_reducible show wpAny _ _ (execs (_ :: _) _) _ _ _); ((with_reducible refine Mine.gen_tok ?_); intro tk; (with_reducible refine wpAny_execs_cons ?_); (try dsimp only))) | walk1 | (dsimp only; walk1) | (leave1; walk_say "STEP leave1"; try dsimp only) | fail "no step"))
  exact bad  _ _ _ _ _ _ _ (RsS.mono (by with_reducible assumption) (by intro p hp; rcases List.mem_cons.mp hp with rfl | hp <;> lcg_src)) (by with_reducible assumption) (by with_reducible assumption) (by k_asm)
end Mine
end
section
namespace Mine
open PySem.Spec PySem.Calls PyProof.Rows.LCg

inductive PartOf (n : List (Addr × Obj)) : Value → Option (List Value) → Prop
  | tup {q its k} : (q, tup (List.toArray its) k) ∈ n → its.length ≤ 3 → PartOf n (.ref q) (some its)
  | lst {q arr k} : (q, listOf arr k) ∈ n → PartOf n (.ref q) none
inductive TysAt (n : List (Addr × Obj)) : List Value → List PyData → Prop
  | nil : TysAt n [] []
  | cons {v d vs ds} : TyAt n v d → TysAt n vs ds → TysAt n (v :: vs) (d :: ds)
theorem TysAt.snoc {n : List (Addr × Obj)} {vs : List Value} {ds : List PyData} {v d} (h : TysAt n vs ds) (a : TyAt n v d) : TysAt n (vs ++ [v]) (ds ++ [d]) := by
  induction h with
  | nil => exact .cons a .nil
  | cons b _ ih => exact .cons b ih
theorem TysAt.len {n : List (Addr × Obj)} {vs : List Value} {ds : List PyData} (h : TysAt n vs ds) : vs.length = ds.length := by
  induction h with
  | nil => rfl
  | cons _ _ ih => simp [ih]
theorem TysAt.mono {n n' : List (Addr × Obj)} {vs : List Value} {ds : List PyData} (h : TysAt n vs ds) (s : ∀ p ∈ n, p ∈ n') : TysAt n' vs ds := by
  induction h with
  | nil => exact .nil
  | cons a _ ih => exact .cons (a.mono s) ih
section
variable {prog : Program} {w : World} {A : Around} {E : Value → Shared → Prop} {s : Shared} {h₀ : Heap} {L : Addr} {m : Str → Option Value} {news : List (Addr × Obj)}
theorem isi_part {v : Value} {o : Option (List Value)} {Q : Value → Shared → Prop} (N : News h₀ L s.heap news) (hv : PartOf news v o) (h : ∀ tk, Q (.bool o.isSome) { s with toks := tk }) :
    wpAny (model prog w) A (call (.builtin "isinstance") [v, .type "tuple"]) Q E s := by
  cases hv with
  | tup a _ => exact isi_tt N a (h _)
  | lst a => exact IsiPair.isList_tuple (h₀ := s.heap) ⟨_, N.get a, rfl, _, rfl⟩ (fun _ _ e => e) (h _)
theorem PartOf.mono {n n' : List (Addr × Obj)} {v : Value} {o : Option (List Value)} (h : PartOf n v o) (s : ∀ p ∈ n, p ∈ n') : PartOf n' v o := by
  cases h with
  | tup a b => exact .tup (s _ a) b
  | lst a => exact .lst (s _ a)
theorem len_part {v : Value} {its : List Value} {Q : Value → Shared → Prop} (N : News h₀ L s.heap news) (hv : PartOf news v (some its)) (h : Q (.int its.length (s.toks + 1)) { s with toks := s.toks + 1 + 1 }) :
    wpAny (model prog w) A (call (.builtin "len") [v]) Q E s := by
  cases hv with
  | tup a b => exact len_tupL N a b h
theorem in_rng {l : Addr} {us : List Value} {c n : Nat} {i : Int} {t : Tok} {Q : Value → Shared → Prop} (N : News h₀ L s.heap news) (hm : (l, listOf us.toArray c) ∈ news) (hi : IntsAre us (rangeKs 0 n)) (h1 : 0 ≤ i ∧ i < n → Q (.bool true) s) (h2 : ¬ (0 ≤ i ∧ i < n) → Q (.bool false) s) : wpAny (model prog w) A (compareOp .In (.int i t) (.ref l)) Q E s := by
  refine in_list_ints (N.isList hm) hi ?_
  by_cases h : 0 ≤ i ∧ i < n
  · rw [show ((rangeKs 0 n).any (· == i)) = true from List.any_eq_true.mpr ⟨i, kre_mem h.1 (by omega), by simp⟩]; exact h1 h
  · rw [show ((rangeKs 0 n).any (· == i)) = false from by
      rw [List.any_eq_false]
      intro x hx
      simp only [rangeKs, List.mem_map, List.mem_range] at hx
      obtain ⟨j, hj, rfl⟩ := hx
      simp only [beq_iff_eq]
      intro e
      exact h ⟨by omega, by omega⟩]
    exact h2 h
end
theorem allNe_lt {d : Addr} {l l' : List (Addr × Obj)} (h : AllLt d l) (s : ∀ q ∈ l', ∃ o, (q.1, o) ∈ l) : AllNe d l' := allNe_of fun q hq => let ⟨_, m⟩ := s q hq; Nat.ne_of_gt (allLt_mem h m)
theorem news_dup {h₀ h : Heap} {L : Addr} {l : List (Addr × Obj)} {q : Addr × Obj} (N : News h₀ L h l) (hq : q ∈ l) : News h₀ L h (q :: l) := fun p hp => N p (by rcases List.mem_cons.mp hp with rfl | hp; exact hq; exact hp)
set_option maxRecDepth 100000 in
set_option maxHeartbeats 8000000 in
theorem told_adt {prog : Program} {w : World} {p : Program} {loose : List Str} {mean : ExcName → Option Value} {mg mb : Str → Option Value} {gd : Option (List Code)} {cn : Str} {cs : Scope} {a : Addr} {ccd : Value} {cl : List (Str × Addr)} {outer : List Env} {A₀ : Around} {base h₀ : Heap} {L : Addr} {m : Str → Option Value} {s : Shared} {Q E : Value → Shared → Prop}
    (B : Below A₀ base outer h₀) (F : Fr h₀ L s.heap m) (X : (Mine.kmk.heap_1 w.params).In h₀) {rst : List (Addr × Obj)} {ps : Array Value} (N : News h₀ L s.heap ((94, tabObj ps) :: rst)) (T : Top p loose mean mg mb h₀) (hk : cs.kind = .function) (hr : ∀ p ∈ rst, p.1 ≠ 94) {nT : List (Addr × Obj)} (hTab : TabOk 58 4 ((Str.ofString "fields_of" ++ Str.ofString ".<locals>.") ++ Str.ofString "put_in") ps nT) (hCd : CodeHd base 96 94)
    (hg : s.gens = #[]) (hb : base.get? 0 = some (bnObj w.params)) (XB : (Mine.kmk.heap_1 w.params).In base)
    {x a1 a2 wx pd : Addr} {k k1 k2 kd : Nat} {t u ti : Tok} {nm : Str} {vs : Array Value} {ds : List PyData} {i : Int} {pv : Value} {o : Option (List Value)}
    (hx : (x, tup #[.str (Str.ofString "adt") t, .str nm u, .ref a1, .ref a2] k) ∈ rst) (h1 : (a1, tup #[] k1) ∈ rst) (h2 : (a2, tup #[] k2) ∈ rst)
    (hp : (pd, tup #[.int i ti, pv] kd) ∈ rst) (hpv : PartOf rst pv o)
    (hA : AdtOf prog w rst wx nm vs) (hvs : vs.size < 4) (hR : 0 ≤ i → i < vs.size → RowAt rst vs i.toNat ds) (hds : ds.length ≤ 3)
    (hfull : ¬ ((0 ≤ i ∧ i < vs.size) ∧ ∃ its, o = some its ∧ its.length = ds.length) → TabFull 58 4 ps)
    (ret : (0 ≤ i ∧ i < vs.size) ∧ (∃ its, o = some its ∧ its.length = ds.length) → ∀ T l zs kT ps' tl h' tk', Fr h₀ L h' m → News h₀ L h' ((94, tabObj ps') :: (tl ++ rst)) → (T, tup #[.int i ti, pv, .ref l] kT) ∈ tl → (l, LCg.lst zs) ∈ tl → TysAt (tl ++ rst) zs ds → TabOk 58 4 ((Str.ofString "fields_of" ++ Str.ofString ".<locals>.") ++ Str.ofString "put_in") ps' (tl ++ nT) → TabFull 58 4 ps' → (∀ p ∈ tl, AllNe p.1 ((94, tabObj ps) :: rst)) → Q (.ref T) { s with heap := h', toks := tk' })
    (bad : ¬ ((0 ≤ i ∧ i < vs.size) ∧ ∃ its, o = some its ∧ its.length = ds.length) → ∀ e dd od tk G h' tk', RsS base G (envX cn cs L a ccd cl :: outer) e (.ref 59) dd ((dd, od) :: (94, tabObj ps) :: rst) h' → G.UpToSlots h' → lookIn "kind" od = some (some (.str "kind" tk)) → Fr h₀ L G m → E (.ref e) { s with heap := h', toks := tk' }) :
    wpAny (model prog w) (ktrTop 305 16 gd cn cs L a ccd cl outer) (call (.ref 138) [.ref pd, .ref x, .ref wx]) Q E s := by
  have hA9 := hA
  obtain ⟨hw, hd, ha, hA, hn, hxs, hdd, hra, hpa, hl⟩ := hA
  refine wpAny_call ?_
  k_dflt ktr_enter
  (repeat' (first | (k_unfold; (try dsimp only)) | (k_end; wrow_close) | ((with_reducible show wpAny _ _ (getAttr (Value.ref _) _ _) _ _ _); (k_dflt (refine' get_own ?k1 ?k2 ?k3 ?k4 ?k5 ?k6 ?k7 ?k8 ?k9 ?_; (case k1 => k_asm); (case k2 => k_asm); (case k3 => exact InstAt.of_news (by k_asm) (by lcg_src) (by lcg_src)); (case k4 => k_is); (case k5 => k_is); (case k6 => k_is); (case k7 => k_is); (case k8 => k_get); (case k9 => k_handed); k_whole))) | (((with_reducible show wpAny _ _ (subscriptTail _ _ (Value.ref _) (Value.str _ _)) _ _ _); k_dflt (refine kda_item (knd := strKind _ _) (by k_asm) (by lcg_src) (by with_reducible assumption) (strKind_is _ _ _ _) (by with_reducible assumption) ?_))) | (((with_reducible show wpAny _ _ (compareOp CmpOp.In (Value.int _ _) _) _ _ _); k_dflt (refine in_rng (by k_asm) (by lcg_src) (by with_reducible assumption) ?h1 ?h2; (case' h1 => intro hin; refine hold ?_); (case' h2 => intro hin)))) | (((with_reducible show wpAny _ _ (compareOp CmpOp.In (Value.str _ _) _) _ _ _); k_dflt (refine in_two (by k_asm) (by lcg_src) (.inr rfl) ?_))) | ((with_reducible show wpAny _ _ (call (Value.type "list") [_]) _ _ _); (k_dflt (refine' kll_range ?hh ?F ?N ?hr ?a ?b ?c ?_; (case F => k_asm); (case N => k_asm); (case hr => with_reducible assumption); (case a => exact (rg_small hvs).1); (case b => exact (rg_small hvs).2.1); (case c => with_reducible exact Nat.le_trans (Nat.le_of_lt hvs) (by decide)); (case hh => rfl)); intro DL usL cL h' tk' F' N' lL hI'; (try k_lt lL))) | ((with_reducible show wpAny _ _ (call (Value.builtin "len") [_]) _ _ _); (k_dflt (first | refine len_t2 (by k_asm) (by lcg_src) ?_ | refine len_listG (by k_asm) (by lcg_src) (by (try simp only [List.size_toArray, List.length_replicate]); omega) ?_ | refine len_part (by k_asm) (PartOf.mono hpv (by intro q hq; lcg_src)) ?_))) | ((with_reducible show wpAny _ _ (call (Value.builtin "isinstance") [_, _]) _ _ _); (k_dflt (first | refine isi_tt (by k_asm) (by lcg_src) ?_ | (refine isi_part (by k_asm) (PartOf.mono hpv (by intro q hq; lcg_src)) ?_; intro tkP; refine hold ?_)))) | (((with_reducible show wpAny _ _ (subscriptTail _ _ (Value.ref _) (Value.int 1 _)) _ _ _); k_dflt (refine item_at1 (by k_asm) (by lcg_src) ?_))) | (((with_reducible show wpAny _ _ (subscriptTail _ _ (Value.ref _) (Value.int 0 _)) _ _ _); k_dflt (refine item_at0 (by k_asm) (by lcg_src) ?_))) | (((with_reducible show wpAny _ _ (call (Value.ref 133) _) _ _ _); k_dflt (refine top_le (dp' := 306) (un' := 22) (Nat.le_of_ble_eq_true rfl) (Nat.le_of_ble_eq_true rfl) (no_value_ok (dp := 0) (un := 0) (by k_asm) (by k_asm) (by k_asm) (by k_asm) (by k_asm) (by first | exact rfl | assumption) (by assumption) (by assumption) ?_)); intro e' dd' t' od' tke' h' tk' F' N' ne' hK')) | ((with_reducible show wpAny _ _ (leaving _ (Value.ref _)) _ _ _); (k_dflt (refine leave_raiseDS (by k_asm) (by rfl) (by rfl) (by k_asm) (by k_asm) (by with_reducible assumption) ⟨rfl, rfl⟩ rfl rfl ?_); intro h' R' U')) | ((with_reducible show RaiseEnd _ _ _ _); (k_dflt (refine raise_end (by k_asm) (by k_asm) (by k_asm) ?_))) | ((with_reducible show wpAny _ _ (exec (Stmt.Raise (some _) none _) _) _ _ _); (k_dflt (refine raise_at (by k_asm) (by assumption) (by rfl) ?_))) | ((with_reducible show wpAny _ _ (storeName _ _ _) _ _ _); (k_dflt (refine store_o (by k_asm) (by k_asm) ?_ (by first | exact rfl | assumption) (by rfl)); intro hw7 mw7 Fw7 Nw7)) | ((with_reducible show wpAny _ _ (eval (PySem.Expr.Subscript _ _ _) _) _ _ _); (k_dflt (refine sub_sv (by rfl) (by first | exact rfl | assumption) (by k_asm) (by rfl) (by rfl) ?_))) | ((with_reducible show wpAny _ _ (PySem.isTrue (PySem.Expr.Compare _ [_] [_] _) _ _) _ _ _); (k_dflt (first | refine isTrue_sv (by rfl) (by first | exact rfl | assumption) (by k_asm) (by rfl) (by rfl) ?_ | refine isTrue_sub (by rfl) (by first | exact rfl | assumption) (by k_asm) (by rfl) (by rfl) ?_); (try dsimp only))) | ((with_reducible show wpAny _ _ (eval (PySem.Expr.Tuple _ _ _) _) _ _ _); (k_dflt (refine tuple_svs (by rfl) (by first | exact rfl | assumption) (by k_asm) (by k_asm) (by rfl) (by size_fits) ?_); intro Dw7 hw7 ow7 Fw7 Nw7 lw7)) | ((with_reducible show wpAny _ _ (spliced (backTo _ (starEach (_ :: _) _))) _ _ _); (k_dflt (refine spl_g (by rfl) (by first | exact rfl | assumption) (by k_asm) (by rfl) ?_))) | ((with_reducible show wpAny _ _ (callWith _ (Value.ref _) _ _ _) _ _ _); (k_here; k_dflt (first | refine' callWith_K ?k1 ?k2 ?_; (case k1 => k_asm); (case k2 => k_is); k_whole | refine' callWith_K0 ?k1 ?k2 ?_; (case k1 => k_in); (case k2 => k_is); k_whole); (try dsimp only [List.nil_append, List.append_nil]))) | ((with_reducible show wpAny _ _ (execs [] _) _ _ _); ((with_reducible refine Mine.gen_tok ?_); intro tk; (with_reducible refine wpAny_execs_nil ?_); (try dsimp only))) | ((with_reducible show wpAny _ _ (execs (_ :: _) _) _ _ _); ((with_reducible refine Mine.gen_tok ?_); intro tk; (with_reducible refine wpAny_execs_cons ?_); (try dsimp only))) | walk1 | (dsimp only; walk1) | (leave1; walk_say "STEP leave1"; try dsimp only) | fail "no step"))
  · exact bad (fun z => hin z.1) _ _ _ _ _ _ _ (RsS.mono (by with_reducible assumption) (by intro p hp; simp only [List.mem_cons] at hp; rcases hp with rfl | rfl | hp <;> lcg_src)) (by with_reducible assumption) (by with_reducible assumption) (by k_asm)
  · obtain ⟨num, rfl⟩ := Int.eq_ofNat_of_zero_le hin.1
    have hR' := hR hin.1 hin.2
    simp only [Int.toNat_natCast] at hR'
    unfold Hold
    have N9 := news_dup (q := (pd, tup #[.int (num : Int) ti, pv] kd)) (by k_asm) (by lcg_src)
    (repeat' (first | (k_unfold; (try dsimp only)) | (k_end; wrow_close) | (((with_reducible show wpAny _ _ (call (Value.ref 97) _) _ _ _); refine hold ?_)) | ((with_reducible show wpAny _ _ (exec (Stmt.Assign [PySem.Expr.Name _ _] (PySem.Expr.ListComp _ _ _ _) _) _) _ _ _); (k_dflt (refine LCp.Assign_ListComp_P (F₀ := by k_asm) (by rfl) (by with_unfolding_all rfl) (by with_unfolding_all rfl) (by decide) (by rfl) (by decide) (by rfl) (by rfl) (by decide) (by rfl) (by rfl) ?_))) | ((with_reducible show wpAny _ _ (storeName _ _ _) _ _ _); (k_dflt (refine store_o (by k_asm) (by k_asm) ?_ (by first | exact rfl | assumption) (by rfl)); intro hw7 mw7 Fw7 Nw7)) | ((with_reducible show wpAny _ _ (eval (PySem.Expr.Call (PySem.Expr.Name _ _) (_ :: _) [] _) _) _ _ _); (k_dflt (refine call_svs (by rfl) (by first | exact rfl | assumption) (by k_asm) (by k_asm) (by k_asm) (by k_is) (by k_is) (by rfl) ?_))) | ((with_reducible show wpAny _ _ (execs (_ :: _) _) _ _ _); ((with_reducible refine Mine.gen_tok ?_); intro tk; (with_reducible refine wpAny_execs_cons ?_); (try dsimp only))) | walk1 | (dsimp only; walk1) | (leave1; walk_say "STEP leave1"; try dsimp only) | fail "no step"))
    unfold Hold
    have N94 := news_sub (l' := (94, tabObj ps) :: rst) (by k_asm) (by intro p hp; rcases List.mem_cons.mp hp with rfl | hp <;> lcg_src)
    k_dflt (refine top_le (dp' := 306) (un' := 25) (Nat.le_of_ble_eq_true rfl) (Nat.le_of_ble_eq_true rfl) (fields_ok (by k_asm) (by k_asm) (by k_asm) N94 (by k_asm) rfl hr hTab hCd hx h1 h2 hA9 hR' (by omega) hds ?_))
    intro lF zsF psF tlF h' tk' F' N' hTabF hneF hlF hFF hfuF hfsF
    (repeat' (first | (k_unfold; (try dsimp only)) | (k_end; wrow_close) | ((with_reducible show LCp.SrcLP _ _ _ _ _ _ _ _ _ _ _ _ _ _ _); refine hold ?_) | walk1 | (dsimp only; walk1) | (leave1; walk_say "STEP leave1"; try dsimp only) | fail "no step"))
    unfold Hold
    have hzs := hFF.len
    have N0 := napp_nil (by k_asm)
    refine LCp.SrcLP.ledger (its := zsF.toArray) (by rfl) (by k_asm) N0 (by lcg_src) (by rw [sizeLine_eq, List.size_toArray, hzs]; omega) fun g1 => ?_
    refine restP_ind (Row := fun i v₁ v₂ => ∃ d, TyAt (tlF ++ rst) v₂ d ∧ ds[i]? = some d) (Inv := fun i ys tl => tl = [] ∧ TysAt (tlF ++ rst) ys (ds.take i)) ?hrow ?hS ?turn ?fin _ 0 [] [] (Nat.zero_add _) ⟨rfl, .nil⟩ lt_nil
    case hrow =>
      intro i v e
      obtain ⟨t9, nm9, u9, ty9, k9, d9, e1, e2, e3, e4⟩ := hFF.at (by simpa using e)
      exact ⟨t9, _, ty9, k9, e1, by rcases List.mem_append.mp e2 with hp | hp <;> lcg_src, d9, e3, e4⟩
    case hS => exact fun tl => .inr ⟨_, List.mem_append_left _ (by lcg_src), rfl, _, rfl⟩
    case turn =>
      intro i ys tl v1 v2 I oI C oC D m2 h tk Q1 E1 hRow hInv hC hx1 hx2 F' N' ret1
      obtain ⟨d9, hT9, hd9⟩ := hRow
      obtain ⟨rfl, hI9⟩ := hInv
      (repeat' (first | (k_unfold; (try dsimp only)) | (k_end; wrow_close) | walk1 | (dsimp only; walk1) | (leave1; walk_say "STEP leave1"; try dsimp only) | fail "no step"))
      exact ret1 _ [] _ _ (by k_asm) (by k_asm) lt_nil ⟨rfl, by rw [take_snoc hd9]; exact hI9.snoc hT9⟩
    case fin =>
      intro ys tl hInv ht9 D h tk F' N' off
      obtain ⟨rfl, hI9⟩ := hInv
      rw [List.take_of_length_le (by rw [List.size_toArray, hzs]; exact Nat.le_refl _)] at hI9
      have hys := hI9.len
      (repeat' (first | (k_unfold; (try dsimp only)) | (k_end; wrow_close) | ((with_reducible show wpAny _ _ (call (Value.builtin "isinstance") [_, _]) _ _ _); (k_dflt (first | refine isi_tt (by k_asm) (by lcg_src) ?_ | (refine isi_part (by k_asm) (PartOf.mono hpv (by intro q hq; lcg_src)) ?_; intro tkP; refine hold ?_)))) | ((with_reducible show wpAny _ _ (execs [] _) _ _ _); ((with_reducible refine Mine.gen_tok ?_); intro tk; (with_reducible refine wpAny_execs_nil ?_); (try dsimp only))) | ((with_reducible show wpAny _ _ (execs (_ :: _) _) _ _ _); ((with_reducible refine Mine.gen_tok ?_); intro tk; (with_reducible refine wpAny_execs_cons ?_); (try dsimp only))) | walk1 | (dsimp only; walk1) | (leave1; walk_say "STEP leave1"; try dsimp only) | fail "no step"))
      unfold Hold
      have hfrD : AllNe D ((94, tabObj ps) :: rst) := allNe_of fun q hq => (by
        rcases List.mem_cons.mp hq with rfl | hq
        · exact Ne.symm (off1_mem off (94, tabObj psF) (by lcg_src))
        · exact Ne.symm (off1_mem off q (by lcg_src)))
      cases o with
      | none =>
        dsimp only [Option.isSome]
        (repeat' (first | (k_unfold; (try dsimp only)) | (k_end; wrow_close) | (((with_reducible show wpAny _ _ (call (Value.ref 133) _) _ _ _); k_dflt (refine top_le (dp' := 306) (un' := 22) (Nat.le_of_ble_eq_true rfl) (Nat.le_of_ble_eq_true rfl) (no_value_ok (dp := 0) (un := 0) (by k_asm) (by k_asm) (by k_asm) (by k_asm) (by k_asm) (by first | exact rfl | assumption) (by assumption) (by assumption) ?_)); intro e' dd' t' od' tke' h' tk' F' N' ne' hK')) | ((with_reducible show wpAny _ _ (leaving _ (Value.ref _)) _ _ _); (k_dflt (refine leave_raiseDS (by k_asm) (by rfl) (by rfl) (by k_asm) (by k_asm) (by with_reducible assumption) ⟨rfl, rfl⟩ rfl rfl ?_); intro h' R' U')) | ((with_reducible show RaiseEnd _ _ _ _); (k_dflt (refine raise_end (by k_asm) (by k_asm) (by k_asm) ?_))) | ((with_reducible show wpAny _ _ (exec (Stmt.Raise (some _) none _) _) _ _ _); (k_dflt (refine raise_at (by k_asm) (by assumption) (by rfl) ?_))) | ((with_reducible show wpAny _ _ (callWith _ (Value.ref _) _ _ _) _ _ _); (k_here; k_dflt (first | refine' callWith_K ?k1 ?k2 ?_; (case k1 => k_asm); (case k2 => k_is); k_whole | refine' callWith_K0 ?k1 ?k2 ?_; (case k1 => k_in); (case k2 => k_is); k_whole); (try dsimp only [List.nil_append, List.append_nil]))) | ((with_reducible show wpAny _ _ (execs (_ :: _) _) _ _ _); ((with_reducible refine Mine.gen_tok ?_); intro tk; (with_reducible refine wpAny_execs_cons ?_); (try dsimp only))) | walk1 | (dsimp only; walk1) | (leave1; walk_say "STEP leave1"; try dsimp only) | fail "no step"))
        have hnot : ¬ ((0 ≤ (num : Int) ∧ (num : Int) < vs.size) ∧ ∃ its, (none : Option (List Value)) = some its ∧ its.length = ds.length) := fun ⟨_, its, e, _⟩ => by cases e
        obtain rfl := hfsF (hfull hnot)
        exact bad hnot _ _ _ _ _ _ _ (RsS.mono (by with_reducible assumption) (by intro p hp; simp only [List.mem_cons] at hp; rcases hp with rfl | rfl | hp <;> lcg_src)) (by with_reducible assumption) (by with_reducible assumption) (by k_asm)
      | some its =>
        dsimp only [Option.isSome]
        (repeat' (first | (k_unfold; (try dsimp only)) | (k_end; wrow_close) | ((with_reducible show wpAny _ _ (call (Value.builtin "len") [_]) _ _ _); (k_dflt (first | refine len_t2 (by k_asm) (by lcg_src) ?_ | refine len_listG (by k_asm) (by lcg_src) (by (try simp only [List.size_toArray, List.length_replicate]); omega) ?_ | refine len_part (by k_asm) (PartOf.mono hpv (by intro q hq; lcg_src)) ?_))) | (((with_reducible show wpAny _ _ (call (Value.ref 133) _) _ _ _); k_dflt (refine top_le (dp' := 306) (un' := 22) (Nat.le_of_ble_eq_true rfl) (Nat.le_of_ble_eq_true rfl) (no_value_ok (dp := 0) (un := 0) (by k_asm) (by k_asm) (by k_asm) (by k_asm) (by k_asm) (by first | exact rfl | assumption) (by assumption) (by assumption) ?_)); intro e' dd' t' od' tke' h' tk' F' N' ne' hK')) | ((with_reducible show wpAny _ _ (leaving _ (Value.ref _)) _ _ _); (k_dflt (refine leave_raiseDS (by k_asm) (by rfl) (by rfl) (by k_asm) (by k_asm) (by with_reducible assumption) ⟨rfl, rfl⟩ rfl rfl ?_); intro h' R' U')) | ((with_reducible show RaiseEnd _ _ _ _); (k_dflt (refine raise_end (by k_asm) (by k_asm) (by k_asm) ?_))) | ((with_reducible show wpAny _ _ (exec (Stmt.Raise (some _) none _) _) _ _ _); (k_dflt (refine raise_at (by k_asm) (by assumption) (by rfl) ?_))) | ((with_reducible show wpAny _ _ (eval (PySem.Expr.Tuple _ _ _) _) _ _ _); (k_dflt (refine tuple_svs (by rfl) (by first | exact rfl | assumption) (by k_asm) (by k_asm) (by rfl) (by size_fits) ?_); intro Dw7 hw7 ow7 Fw7 Nw7 lw7)) | ((with_reducible show wpAny _ _ (spliced (backTo _ (starEach (_ :: _) _))) _ _ _); (k_dflt (refine spl_g (by rfl) (by first | exact rfl | assumption) (by k_asm) (by rfl) ?_))) | ((with_reducible show wpAny _ _ (callWith _ (Value.ref _) _ _ _) _ _ _); (k_here; k_dflt (first | refine' callWith_K ?k1 ?k2 ?_; (case k1 => k_asm); (case k2 => k_is); k_whole | refine' callWith_K0 ?k1 ?k2 ?_; (case k1 => k_in); (case k2 => k_is); k_whole); (try dsimp only [List.nil_append, List.append_nil]))) | ((with_reducible show wpAny _ _ (execs [] _) _ _ _); ((with_reducible refine Mine.gen_tok ?_); intro tk; (with_reducible refine wpAny_execs_nil ?_); (try dsimp only))) | ((with_reducible show wpAny _ _ (execs (_ :: _) _) _ _ _); ((with_reducible refine Mine.gen_tok ?_); intro tk; (with_reducible refine wpAny_execs_cons ?_); (try dsimp only))) | walk1 | (dsimp only; walk1) | (leave1; walk_say "STEP leave1"; try dsimp only) | fail "no step"))
        all_goals first
          | exact ret ⟨hin, its, rfl, by clear ret bad hfull; simp only [List.size_toArray] at *; omega⟩ _ _ _ _ psF ((_, tup #[.int (num : Int) ti, pv, .ref D] _) :: (D, LCg.lst ys) :: tlF) _ _ (by k_asm) (news_sub (by k_asm) (by intro p hp; simp only [List.mem_cons, List.cons_append, List.mem_append] at hp; rcases hp with rfl | rfl | rfl | hp | hp <;> lcg_src)) (.head _) (.tail _ (.head _)) (hI9.mono fun p hp => .tail _ (.tail _ hp)) (hTabF.mono fun p hp => .tail _ (.tail _ hp)) hfuF (by
              intro p hp
              rcases List.mem_cons.mp hp with rfl | hp
              · exact allNe_lt (by with_reducible assumption) (fun q hq => (List.mem_cons.mp hq).elim (fun e => ⟨tabObj psF, by subst e; lcg_src⟩) (fun hq => ⟨q.2, by lcg_src⟩))
              · rcases List.mem_cons.mp hp with rfl | hp
                · exact hfrD
                · exact hneF p hp)
          | (have hnot : ¬ ((0 ≤ (num : Int) ∧ (num : Int) < vs.size) ∧ ∃ its', some its = some its' ∧ its'.length = ds.length) := fun ⟨_, its', e, el⟩ => by
              cases e
              clear ret bad hfull
              simp only [List.size_toArray] at *
              omega
             obtain rfl := hfsF (hfull hnot)
             exact bad hnot _ _ _ _ _ _ _ (RsS.mono (by with_reducible assumption) (by intro p hp; simp only [List.mem_cons] at hp; rcases hp with rfl | rfl | hp <;> lcg_src)) (by with_reducible assumption) (by with_reducible assumption) (by k_asm))
end Mine
end
section
namespace Mine
open PySem.Spec PySem.Calls

structure HdO (h : Str) : Prop where
  lay : PyData.canLay0 (.str h) = true
  box : (h == Str.ofString "box") = false
  adt : (h == Str.ofString "adt") = false
inductive PutSh : Str → Value → List Value → Shp → Prop
  | box {vv x} : PutSh (Str.ofString "box") vv [x] (.box x)
  | adt {y ty its} : PutSh (Str.ofString "adt") (.int y ty) its (.vrnt y its)
  | oth {h vv its} : HdO h → PutSh h vv its (.flds its)
section
variable {prog : Program} {w : World} {A : Around} {E : Value → Shared → Prop} {s : Shared} {h₀ : Heap} {L : Addr} {m : Str → Option Value} {news : List (Addr × Obj)}
theorem eq_hdB {h : Str} {t u : Tok} {Q : Value → Shared → Prop} (hh : HdO h) (hu : A.units + 64 < cLine) (hq : Q (.bool false) s) : wpAny (model prog w) A (compareOp .Eq (.str h t) (.str (Str.ofString "box") u)) Q E s :=
  eq_dataH (.str h t) (.str _ u) (shaped_of hh.lay (by simp only [PyData.depth]; omega)) (by decide +kernel) hu (by rw [show PyData.eqv (.str h) (.str (Str.ofString "box")) = false by simpa [PyData.eqv] using hh.box]; exact hq)
theorem eq_hdA {h : Str} {t u : Tok} {Q : Value → Shared → Prop} (hh : HdO h) (hu : A.units + 64 < cLine) (hq : Q (.bool false) s) : wpAny (model prog w) A (compareOp .Eq (.str h t) (.str (Str.ofString "adt") u)) Q E s :=
  eq_dataH (.str h t) (.str _ u) (shaped_of hh.lay (by simp only [PyData.depth]; omega)) (by decide +kernel) hu (by rw [show PyData.eqv (.str h) (.str (Str.ofString "adt")) = false by simpa [PyData.eqv] using hh.adt]; exact hq)
end
set_option maxRecDepth 100000 in
set_option maxHeartbeats 8000000 in
theorem put_ok {prog : Program} {w : World} {p : Program} {loose : List Str} {mean : ExcName → Option Value} {mg mb : Str → Option Value} {dp un : Nat} {gd : Option (List Code)} {cn : Str} {cs : Scope} {a : Addr} {ccd : Value} {cl : List (Str × Addr)} {outer : List Env} {A₀ : Around} {base h₀ : Heap} {L : Addr} {m : Str → Option Value} {s : Shared} {Q E : Value → Shared → Prop} {news : List (Addr × Obj)}
    (B : Below A₀ base outer h₀) (F : Fr h₀ L s.heap m) (X : (Mine.kmk.heap_1 w.params).In h₀) (N : News h₀ L s.heap news) (T : Top p loose mean mg mb h₀) (hk : cs.kind = .function) {x pa : Addr} {k kp : Nat} {hx : Str} {t : Tok} {r its : List Value} {vv : Value} {sh : Shp} (hm : (x, tup (.str hx t :: r).toArray k) ∈ news) {n : List (Addr × Obj)} (hp : (pa, tup its.toArray kp) ∈ n) (hn : ∀ p ∈ n, p ∈ news) (hS : PutSh hx vv its sh) (hdp : dp + 2 < recursionLimit) (hun : un + 80 < cLine)
    (ret : ∀ D oD h' tk', Fr h₀ L h' m → News h₀ L h' ((D, oD) :: news) → AllLt D news → VS ((D, oD) :: n) (.ref D) sh → Q (.ref D) { s with heap := h', toks := tk' }) :
    wpAny (model prog w) (ktrTop dp un gd cn cs L a ccd cl outer) (call (.ref 145) [.ref x, vv, .ref pa]) Q E s := by
  have hpn := hn _ hp
  cases hS
  case box =>
    refine wpAny_call ?_
    k_dflt ktr_enter
    (repeat' (first | (k_unfold; (try dsimp only)) | (k_end; wrow_close) | (((with_reducible show wpAny _ _ (subscriptTail _ _ (Value.ref _) (Value.int 0 _)) _ _ _); k_dflt (refine item_at0 (by k_asm) (by lcg_src) ?_))) | ((with_reducible show wpAny _ _ (newTuple _) _ _ _); (k_dflt (refine tuple_o (by k_asm) (by k_asm) (by size_fits) ?_); intro Dw7 hw7 ow7 Fw7 Nw7 lw7)) | ((with_reducible show wpAny _ _ (eval (PySem.Expr.Subscript _ _ _) _) _ _ _); (k_dflt (refine sub_sv (by rfl) (by first | exact rfl | assumption) (by k_asm) (by rfl) (by rfl) ?_))) | ((with_reducible show wpAny _ _ (PySem.isTrue (PySem.Expr.Compare _ [_] [_] _) _ _) _ _ _); (k_dflt (first | refine isTrue_sv (by rfl) (by first | exact rfl | assumption) (by k_asm) (by rfl) (by rfl) ?_ | refine isTrue_sub (by rfl) (by first | exact rfl | assumption) (by k_asm) (by rfl) (by rfl) ?_); (try dsimp only))) | ((with_reducible show wpAny _ _ (execs (_ :: _) _) _ _ _); ((with_reducible refine Mine.gen_tok ?_); intro tk; (with_reducible refine wpAny_execs_cons ?_); (try dsimp only))) | walk1 | (dsimp only; walk1) | (leave1; walk_say "STEP leave1"; try dsimp only) | fail "no step"))
    exact ret _ _ _ _ (by k_asm) (by k_asm) (by with_reducible assumption) (.box (.head _))
  case adt =>
    refine wpAny_call ?_
    k_dflt ktr_enter
    (repeat' (first | (k_unfold; (try dsimp only)) | (k_end; wrow_close) | (((with_reducible show wpAny _ _ (subscriptTail _ _ (Value.ref _) (Value.int 0 _)) _ _ _); k_dflt (refine item_at0 (by k_asm) (by lcg_src) ?_))) | ((with_reducible show wpAny _ _ (PySem.isTrue (PySem.Expr.Compare _ [_] [_] _) _ _) _ _ _); (k_dflt (first | refine isTrue_sv (by rfl) (by first | exact rfl | assumption) (by k_asm) (by rfl) (by rfl) ?_ | refine isTrue_sub (by rfl) (by first | exact rfl | assumption) (by k_asm) (by rfl) (by rfl) ?_); (try dsimp only))) | ((with_reducible show wpAny _ _ (eval (PySem.Expr.Tuple _ _ _) _) _ _ _); (k_dflt (refine tuple_svs (by rfl) (by first | exact rfl | assumption) (by k_asm) (by k_asm) (by rfl) (by size_fits) ?_); intro Dw7 hw7 ow7 Fw7 Nw7 lw7)) | ((with_reducible show wpAny _ _ (execs [] _) _ _ _); ((with_reducible refine Mine.gen_tok ?_); intro tk; (with_reducible refine wpAny_execs_nil ?_); (try dsimp only))) | ((with_reducible show wpAny _ _ (execs (_ :: _) _) _ _ _); ((with_reducible refine Mine.gen_tok ?_); intro tk; (with_reducible refine wpAny_execs_cons ?_); (try dsimp only))) | walk1 | (dsimp only; walk1) | (leave1; walk_say "STEP leave1"; try dsimp only) | fail "no step"))
    exact ret _ _ _ _ (by k_asm) (news_sub (l' := (_, _) :: news) (by k_asm) (by intro p hp; lcg_src)) (by kaf_suf) (.vrnt (.head _) (.tail _ hp))
  case oth hO =>
    refine wpAny_call ?_
    k_dflt ktr_enter
    (repeat' (first | (k_unfold; (try dsimp only)) | (k_end; wrow_close) | (((with_reducible show wpAny _ _ (compareOp CmpOp.Eq (Value.str hx _) (Value.str (Str.ofString "adt") _)) _ _ _); k_dflt (refine eq_hdA (by with_reducible assumption) (by ktr_units) ?_))) | (((with_reducible show wpAny _ _ (compareOp CmpOp.Eq (Value.str hx _) (Value.str (Str.ofString "box") _)) _ _ _); k_dflt (refine eq_hdB (by with_reducible assumption) (by ktr_units) ?_))) | (((with_reducible show wpAny _ _ (subscriptTail _ _ (Value.ref _) (Value.int 0 _)) _ _ _); k_dflt (refine item_at0 (by k_asm) (by lcg_src) ?_))) | ((with_reducible show wpAny _ _ (PySem.isTrue (PySem.Expr.Compare _ [_] [_] _) _ _) _ _ _); (k_dflt (first | refine isTrue_sv (by rfl) (by first | exact rfl | assumption) (by k_asm) (by rfl) (by rfl) ?_ | refine isTrue_sub (by rfl) (by first | exact rfl | assumption) (by k_asm) (by rfl) (by rfl) ?_); (try dsimp only))) | ((with_reducible show wpAny _ _ (eval (PySem.Expr.Tuple _ _ _) _) _ _ _); (k_dflt (refine tuple_svs (by rfl) (by first | exact rfl | assumption) (by k_asm) (by k_asm) (by rfl) (by size_fits) ?_); intro Dw7 hw7 ow7 Fw7 Nw7 lw7)) | ((with_reducible show wpAny _ _ (execs [] _) _ _ _); ((with_reducible refine Mine.gen_tok ?_); intro tk; (with_reducible refine wpAny_execs_nil ?_); (try dsimp only))) | ((with_reducible show wpAny _ _ (execs (_ :: _) _) _ _ _); ((with_reducible refine Mine.gen_tok ?_); intro tk; (with_reducible refine wpAny_execs_cons ?_); (try dsimp only))) | walk1 | (dsimp only; walk1) | (leave1; walk_say "STEP leave1"; try dsimp only) | fail "no step"))
    exact ret _ _ _ _ (by k_asm) (news_sub (l' := (_, _) :: news) (by k_asm) (by intro p hp; lcg_src)) (by kaf_suf) (.flds (.head _) (.tail _ hp))
end Mine
end
section
namespace Mine
open PySem.Spec PySem.Calls

set_option maxRecDepth 100000 in
set_option maxHeartbeats 8000000 in
theorem gath_box {prog : Program} {w : World} {p : Program} {loose : List Str} {mean : ExcName → Option Value} {mg mb : Str → Option Value} {dp un : Nat} {gd : Option (List Code)} {cn : Str} {cs : Scope} {a : Addr} {ccd : Value} {cl : List (Str × Addr)} {outer : List Env} {A₀ : Around} {base h₀ : Heap} {L : Addr} {m : Str → Option Value} {s : Shared} {Q E : Value → Shared → Prop} {news : List (Addr × Obj)}
    (B : Below A₀ base outer h₀) (F : Fr h₀ L s.heap m) (X : (Mine.kmk.heap_1 w.params).In h₀) (N : News h₀ L s.heap news) (T : Top p loose mean mg mb h₀) (hk : cs.kind = .function) {v d : Addr} {k c : Nat} {t : Tok} {hx : Str} {x y : Value} {as : List Value} (hm : (v, tup #[.str hx t, x] k) ∈ news) (hh : hx = Str.ofString "box" ∨ hx = Str.ofString "ref") (hd : (d, listOf (as ++ [y]).toArray c) ∈ news) (hA2 : as.length ≤ 98) (hdp : dp + 2 < recursionLimit) (hun : un + 80 < cLine)
    (ret : ∀ R P c kP t2 h' tk', Fr h₀ L h' m → News h₀ L h' ((R, listOf (as ++ [Value.ref P]).toArray c) :: (P, tup #[.str hx t2, y] kP) :: news) → AllLt R news → AllLt P news → Q (.ref R) { s with heap := h', toks := tk' }) :
    wpAny (model prog w) (ktrTop dp un gd cn cs L a ccd cl outer) (call (.ref 126) [.ref d, .ref v]) Q E s := by
  refine wpAny_call ?_
  k_dflt ktr_enter
  (repeat' (first | (k_unfold; (try dsimp only)) | (k_end; wrow_close) | ((with_reducible show wpAny _ _ (binaryOp Operator.Add (Value.ref _) (Value.ref _)) _ _ _); (k_dflt (refine add_ls (by k_asm) (by k_asm) (by lcg_src) (by lcg_src) (by simp only [List.length_cons, List.length_nil]; omega) ?_); intro DA h' F' N' lA)) | ((with_reducible show wpAny _ _ (subscriptTail (PySem.Expr.Name _ _) (PySem.Expr.Slice _ _ _ _) (Value.ref _) (Value.ref _)) _ _ _); (k_dflt (refine list_but (by k_asm) (by k_asm) (by lcg_src) (by with_reducible assumption) ?_); intro DS h' F' N' lS)) | ((with_reducible show wpAny _ _ (subscriptTail (PySem.Expr.Name _ _) (PySem.Expr.UnaryOp _ _ _) (Value.ref _) (Value.int _ _)) _ _ _); (k_dflt (refine list_last (by k_asm) (by lcg_src) (by with_reducible assumption) ?_))) | (((with_reducible show wpAny _ _ (compareOp CmpOp.In (Value.str hx _) _) _ _ _); k_dflt (refine in_two (by k_asm) (by lcg_src) hh ?_))) | (((with_reducible show wpAny _ _ (subscriptTail _ _ (Value.ref _) (Value.int 0 _)) _ _ _); k_dflt (refine item_at0 (by k_asm) (by lcg_src) ?_))) | ((with_reducible show wpAny _ _ (newList _) _ _ _); (k_dflt (refine list_o (by k_asm) (by k_asm) (by size_fits) ?_); intro Dw7 hw7 ow7 Fw7 Nw7 lw7)) | ((with_reducible show wpAny _ _ (newTuple _) _ _ _); (k_dflt (refine tuple_o (by k_asm) (by k_asm) (by size_fits) ?_); intro Dw7 hw7 ow7 Fw7 Nw7 lw7)) | ((with_reducible show wpAny _ _ (eval (PySem.Expr.Subscript _ _ _) _) _ _ _); (k_dflt (refine sub_sv (by rfl) (by first | exact rfl | assumption) (by k_asm) (by rfl) (by rfl) ?_))) | ((with_reducible show wpAny _ _ (eval (PySem.Expr.Tuple _ _ _) _) _ _ _); (k_dflt (refine tuple_svs (by rfl) (by first | exact rfl | assumption) (by k_asm) (by k_asm) (by rfl) (by size_fits) ?_); intro Dw7 hw7 ow7 Fw7 Nw7 lw7)) | ((with_reducible show wpAny _ _ (execs (_ :: _) _) _ _ _); ((with_reducible refine Mine.gen_tok ?_); intro tk; (with_reducible refine wpAny_execs_cons ?_); (try dsimp only))) | walk1 | (dsimp only; walk1) | (leave1; walk_say "STEP leave1"; try dsimp only) | fail "no step"))
  exact ret _ _ _ _ _ _ _ (by k_asm) (news2 (by k_asm) (by lcg_src) (by lcg_src) (by intro p hp; lcg_src)) (by kaf_suf) (by kaf_suf)
set_option maxRecDepth 100000 in
set_option maxHeartbeats 8000000 in
theorem gath_flds {prog : Program} {w : World} {p : Program} {loose : List Str} {mean : ExcName → Option Value} {mg mb : Str → Option Value} {dp un : Nat} {gd : Option (List Code)} {cn : Str} {cs : Scope} {a : Addr} {ccd : Value} {cl : List (Str × Addr)} {outer : List Env} {A₀ : Around} {base h₀ : Heap} {L : Addr} {m : Str → Option Value} {s : Shared} {Q E : Value → Shared → Prop} {news : List (Addr × Obj)}
    (B : Below A₀ base outer h₀) (F : Fr h₀ L s.heap m) (X : (Mine.kmk.heap_1 w.params).In h₀) (N : News h₀ L s.heap news) (T : Top p loose mean mg mb h₀) (hk : cs.kind = .function) {v p d : Addr} {k kp c : Nat} {t : Tok} {its as bs : List Value} (hm : (v, tup #[.str (Str.ofString "fields") t, .ref p] k) ∈ news) (hp : (p, tup its.toArray kp) ∈ news) (hd : (d, listOf (as ++ bs).toArray c) ∈ news) (hl : its.length ≤ 3) (hb : bs.length = its.length) (hz9 : (as ++ bs).length ≤ 9) (hz : (as ++ bs).length ≤ 99) (hdp : dp + 2 < recursionLimit) (hun : un + 80 < cLine)
    (ret : ∀ R P c kP h' tk', Fr h₀ L h' m → News h₀ L h' ((R, listOf (as ++ [Value.ref P]).toArray c) :: (P, tup bs.toArray kP) :: news) → AllLt R news → AllLt P news → Q (.ref R) { s with heap := h', toks := tk' }) :
    wpAny (model prog w) (ktrTop dp un gd cn cs L a ccd cl outer) (call (.ref 126) [.ref d, .ref v]) Q E s := by
  have hA2 : as.length ≤ 9 := by rw [List.length_append] at hz9; omega
  refine wpAny_call ?_
  k_dflt ktr_enter
  (repeat' (first | (k_unfold; (try dsimp only)) | (k_end; wrow_close) | ((with_reducible show wpAny _ _ (call (Value.builtin "len") [_]) _ _ _); (k_dflt (first | refine len_listG (by k_asm) (by lcg_src) (by rw [List.size_toArray]; omega) ?_ | refine len_tupL (by k_asm) (by lcg_src) (by with_reducible assumption) ?_))) | ((with_reducible show wpAny _ _ (call (Value.type "tuple") [_]) _ _ _); (k_dflt (refine tup_of (by k_asm) (by k_asm) (by lcg_src) (by omega) ?_); intro DT h' F' N' lT)) | (((with_reducible show wpAny _ _ (subscriptTail _ (PySem.Expr.Slice (some _) none _ _) _ _) _ _ _); k_dflt (refine list_tl (by k_asm) (by k_asm) (by lcg_src) (by simp only [List.size_toArray, List.length_append]; omega) (by with_reducible assumption) ?_); intro DS h' F' N' lS)) | (((with_reducible show wpAny _ _ (subscriptTail _ (PySem.Expr.Slice none (some _) _ _) _ _) _ _ _); k_dflt (refine list_hd (by k_asm) (by k_asm) (by lcg_src) (by simp only [List.size_toArray, List.length_append]; omega) (by with_reducible assumption) ?_); intro DS h' F' N' lS)) | ((with_reducible show wpAny _ _ (subscriptTail (PySem.Expr.Name _ _) (PySem.Expr.UnaryOp _ _ _) (Value.ref _) (Value.int _ _)) _ _ _); (k_dflt (first | refine item_last2 (by k_asm) (by lcg_src) ?_ | refine item_last3 (by k_asm) (by lcg_src) ?_))) | ((with_reducible show wpAny _ _ (binaryOp Operator.Add (Value.ref _) (Value.ref _)) _ _ _); (k_dflt (refine add_ls (by k_asm) (by k_asm) (by lcg_src) (by lcg_src) (by simp only [List.length_cons, List.length_nil]; omega) ?_); intro DA h' F' N' lA)) | (((with_reducible show wpAny _ _ (subscriptTail _ _ (Value.ref _) (Value.int 0 _)) _ _ _); k_dflt (refine item_at0 (by k_asm) (by lcg_src) ?_))) | ((with_reducible show wpAny _ _ (storeName _ _ _) _ _ _); (k_dflt (refine store_o (by k_asm) (by k_asm) ?_ (by first | exact rfl | assumption) (by rfl)); intro hw7 mw7 Fw7 Nw7)) | ((with_reducible show wpAny _ _ (newList _) _ _ _); (k_dflt (refine list_o (by k_asm) (by k_asm) (by size_fits) ?_); intro Dw7 hw7 ow7 Fw7 Nw7 lw7)) | ((with_reducible show wpAny _ _ (eval (PySem.Expr.Subscript _ _ _) _) _ _ _); (k_dflt (refine sub_sv (by rfl) (by first | exact rfl | assumption) (by k_asm) (by rfl) (by rfl) ?_))) | ((with_reducible show wpAny _ _ (PySem.isTrue (PySem.Expr.Compare _ [_] [_] _) _ _) _ _ _); (k_dflt (first | refine isTrue_sv (by rfl) (by first | exact rfl | assumption) (by k_asm) (by rfl) (by rfl) ?_ | refine isTrue_sub (by rfl) (by first | exact rfl | assumption) (by k_asm) (by rfl) (by rfl) ?_); (try dsimp only))) | ((with_reducible show wpAny _ _ (eval (PySem.Expr.Tuple _ _ _) _) _ _ _); (k_dflt (refine tuple_svs (by rfl) (by first | exact rfl | assumption) (by k_asm) (by k_asm) (by rfl) (by size_fits) ?_); intro Dw7 hw7 ow7 Fw7 Nw7 lw7)) | ((with_reducible show wpAny _ _ (spliced (backTo _ (starEach (_ :: _) _))) _ _ _); (k_dflt (refine spl_g (by rfl) (by first | exact rfl | assumption) (by k_asm) (by rfl) ?_))) | ((with_reducible show wpAny _ _ (execs [] _) _ _ _); ((with_reducible refine Mine.gen_tok ?_); intro tk; (with_reducible refine wpAny_execs_nil ?_); (try dsimp only))) | ((with_reducible show wpAny _ _ (execs (_ :: _) _) _ _ _); ((with_reducible refine Mine.gen_tok ?_); intro tk; (with_reducible refine wpAny_execs_cons ?_); (try dsimp only))) | walk1 | (dsimp only; walk1) | (leave1; walk_say "STEP leave1"; try dsimp only) | fail "no step"))
  exact ret _ _ _ _ _ _ (by k_asm) (news2 (by k_asm) (by lcg_src) (by lcg_src) (by intro p hp; lcg_src)) (by kaf_suf) (by kaf_suf)
set_option maxRecDepth 100000 in
set_option maxHeartbeats 8000000 in
theorem gath_vrnt {prog : Program} {w : World} {p : Program} {loose : List Str} {mean : ExcName → Option Value} {mg mb : Str → Option Value} {dp un : Nat} {gd : Option (List Code)} {cn : Str} {cs : Scope} {a : Addr} {ccd : Value} {cl : List (Str × Addr)} {outer : List Env} {A₀ : Around} {base h₀ : Heap} {L : Addr} {m : Str → Option Value} {s : Shared} {Q E : Value → Shared → Prop} {news : List (Addr × Obj)}
    (B : Below A₀ base outer h₀) (F : Fr h₀ L s.heap m) (X : (Mine.kmk.heap_1 w.params).In h₀) (N : News h₀ L s.heap news) (T : Top p loose mean mg mb h₀) (hk : cs.kind = .function) {v p d : Addr} {k kp c : Nat} {t ty : Tok} {y : Int} {its as bs : List Value} (hm : (v, tup #[.str (Str.ofString "variant") t, .int y ty, .ref p] k) ∈ news) (hp : (p, tup its.toArray kp) ∈ news) (hd : (d, listOf (as ++ bs).toArray c) ∈ news) (hl : its.length ≤ 3) (hb : bs.length = its.length) (hz9 : (as ++ bs).length ≤ 9) (hz : (as ++ bs).length ≤ 99) (hdp : dp + 2 < recursionLimit) (hun : un + 80 < cLine)
    (ret : ∀ R P P2 c kP kP2 h' tk', Fr h₀ L h' m → News h₀ L h' ((R, listOf (as ++ [Value.ref P]).toArray c) :: (P, tup #[.int y ty, .ref P2] kP) :: (P2, tup bs.toArray kP2) :: news) → AllLt R news → AllLt P news → AllLt P2 news → Q (.ref R) { s with heap := h', toks := tk' }) :
    wpAny (model prog w) (ktrTop dp un gd cn cs L a ccd cl outer) (call (.ref 126) [.ref d, .ref v]) Q E s := by
  have hA2 : as.length ≤ 9 := by rw [List.length_append] at hz9; omega
  refine wpAny_call ?_
  k_dflt ktr_enter
  (repeat' (first | (k_unfold; (try dsimp only)) | (k_end; wrow_close) | ((with_reducible show wpAny _ _ (call (Value.builtin "len") [_]) _ _ _); (k_dflt (first | refine len_listG (by k_asm) (by lcg_src) (by rw [List.size_toArray]; omega) ?_ | refine len_tupL (by k_asm) (by lcg_src) (by with_reducible assumption) ?_))) | ((with_reducible show wpAny _ _ (call (Value.type "tuple") [_]) _ _ _); (k_dflt (refine tup_of (by k_asm) (by k_asm) (by lcg_src) (by omega) ?_); intro DT h' F' N' lT)) | (((with_reducible show wpAny _ _ (subscriptTail _ (PySem.Expr.Slice (some _) none _ _) _ _) _ _ _); k_dflt (refine list_tl (by k_asm) (by k_asm) (by lcg_src) (by simp only [List.size_toArray, List.length_append]; omega) (by with_reducible assumption) ?_); intro DS h' F' N' lS)) | (((with_reducible show wpAny _ _ (subscriptTail _ (PySem.Expr.Slice none (some _) _ _) _ _) _ _ _); k_dflt (refine list_hd (by k_asm) (by k_asm) (by lcg_src) (by simp only [List.size_toArray, List.length_append]; omega) (by with_reducible assumption) ?_); intro DS h' F' N' lS)) | ((with_reducible show wpAny _ _ (subscriptTail (PySem.Expr.Name _ _) (PySem.Expr.UnaryOp _ _ _) (Value.ref _) (Value.int _ _)) _ _ _); (k_dflt (first | refine item_last2 (by k_asm) (by lcg_src) ?_ | refine item_last3 (by k_asm) (by lcg_src) ?_))) | ((with_reducible show wpAny _ _ (binaryOp Operator.Add (Value.ref _) (Value.ref _)) _ _ _); (k_dflt (refine add_ls (by k_asm) (by k_asm) (by lcg_src) (by lcg_src) (by simp only [List.length_cons, List.length_nil]; omega) ?_); intro DA h' F' N' lA)) | (((with_reducible show wpAny _ _ (subscriptTail _ _ (Value.ref _) (Value.int 1 _)) _ _ _); k_dflt (refine item_at1 (by k_asm) (by lcg_src) ?_))) | (((with_reducible show wpAny _ _ (subscriptTail _ _ (Value.ref _) (Value.int 0 _)) _ _ _); k_dflt (refine item_at0 (by k_asm) (by lcg_src) ?_))) | ((with_reducible show wpAny _ _ (storeName _ _ _) _ _ _); (k_dflt (refine store_o (by k_asm) (by k_asm) ?_ (by first | exact rfl | assumption) (by rfl)); intro hw7 mw7 Fw7 Nw7)) | ((with_reducible show wpAny _ _ (newList _) _ _ _); (k_dflt (refine list_o (by k_asm) (by k_asm) (by size_fits) ?_); intro Dw7 hw7 ow7 Fw7 Nw7 lw7)) | ((with_reducible show wpAny _ _ (newTuple _) _ _ _); (k_dflt (refine tuple_o (by k_asm) (by k_asm) (by size_fits) ?_); intro Dw7 hw7 ow7 Fw7 Nw7 lw7)) | ((with_reducible show wpAny _ _ (eval (PySem.Expr.Subscript _ _ _) _) _ _ _); (k_dflt (refine sub_sv (by rfl) (by first | exact rfl | assumption) (by k_asm) (by rfl) (by rfl) ?_))) | ((with_reducible show wpAny _ _ (PySem.isTrue (PySem.Expr.Compare _ [_] [_] _) _ _) _ _ _); (k_dflt (first | refine isTrue_sv (by rfl) (by first | exact rfl | assumption) (by k_asm) (by rfl) (by rfl) ?_ | refine isTrue_sub (by rfl) (by first | exact rfl | assumption) (by k_asm) (by rfl) (by rfl) ?_); (try dsimp only))) | ((with_reducible show wpAny _ _ (eval (PySem.Expr.Tuple _ _ _) _) _ _ _); (k_dflt (refine tuple_svs (by rfl) (by first | exact rfl | assumption) (by k_asm) (by k_asm) (by rfl) (by size_fits) ?_); intro Dw7 hw7 ow7 Fw7 Nw7 lw7)) | ((with_reducible show wpAny _ _ (spliced (backTo _ (starEach (_ :: _) _))) _ _ _); (k_dflt (refine spl_g (by rfl) (by first | exact rfl | assumption) (by k_asm) (by rfl) ?_))) | ((with_reducible show wpAny _ _ (execs [] _) _ _ _); ((with_reducible refine Mine.gen_tok ?_); intro tk; (with_reducible refine wpAny_execs_nil ?_); (try dsimp only))) | ((with_reducible show wpAny _ _ (execs (_ :: _) _) _ _ _); ((with_reducible refine Mine.gen_tok ?_); intro tk; (with_reducible refine wpAny_execs_cons ?_); (try dsimp only))) | walk1 | (dsimp only; walk1) | (leave1; walk_say "STEP leave1"; try dsimp only) | fail "no step"))
  exact ret _ _ _ _ _ _ _ _ (by k_asm) (news3 (by k_asm) (by lcg_src) (by lcg_src) (by lcg_src) (by intro p hp; lcg_src)) (by kaf_suf) (by kaf_suf) (by kaf_suf)
end Mine
end
section
namespace Mine
open PySem.Spec PySem.Calls

inductive NmRow : Str → Nat → List PyData → Prop
  | s : NmRow (Str.ofString "S") 0 [boolD, intD]
  | e {m : Nat} : m ≤ 2 → NmRow (Str.ofString "E") m ([intD, boolD].take m)
inductive HS (w : World) (n : List (Addr × Obj)) : Addr → Addr → Value → Addr → Addr → Str → List Value → List PyData → Shp → Prop
  | tu {t hd pa ty tt : Addr} {its tys tys' : List Value} {ds : List PyData} {u : Tok} {k k1 k2 k3 c : Nat} : (t, tup #[.str (Str.ofString "tuple") u, .ref tt] k) ∈ n → (tt, tup tys.toArray k1) ∈ n → TysAt n tys ds → (hd, tup its.toArray k2) ∈ n → (pa, tup its.toArray k3) ∈ n → (ty, listOf tys'.toArray c) ∈ n → TysAt n tys' ds → its.length = ds.length → its.length ≤ 2 → RGs w n its → HS w n t hd .none pa ty (Str.ofString "tuple") its ds (.flds its)
  | arr {t hd pa ty : Addr} {ty0 : Value} {its tys' : List Value} {u u2 : Tok} {m k k2 k3 c : Nat} : (t, tup #[.str (Str.ofString "array") u, ty0, .int (m : Int) u2] k) ∈ n → TyAt n ty0 intD → (hd, tup its.toArray k2) ∈ n → (pa, tup its.toArray k3) ∈ n → (ty, listOf tys'.toArray c) ∈ n → TysAt n tys' (List.replicate m intD) → its.length = m → m ≤ 2 → RGs w n its → HS w n t hd .none pa ty (Str.ofString "array") its (List.replicate m intD) (.flds its)
  | box {t hd pa ty : Addr} {ty0 ty1 x : Value} {u u2 : Tok} {k k2 k3 c : Nat} : (t, tup #[.str (Str.ofString "box") u, ty0] k) ∈ n → TyAt n ty0 intD → (hd, tup #[.str (Str.ofString "box") u2, x] k2) ∈ n → (pa, tup #[x] k3) ∈ n → (ty, listOf #[ty1] c) ∈ n → TyAt n ty1 intD → RG w n x → HS w n t hd .none pa ty (Str.ofString "box") [x] [intD] (.box x)
  | adt {t hd pa ty a1 a2 q : Addr} {nm : Str} {its tys : List Value} {ds : List PyData} {u u2 tn tv : Tok} {num k k1 k2 k3 k4 k5 c : Nat} : (t, tup #[.str (Str.ofString "adt") u, .str nm u2, .ref a1, .ref a2] k) ∈ n → (a1, tup #[] k1) ∈ n → (a2, tup #[] k2) ∈ n → (hd, tup #[.int (num : Int) tn, .ref q] k3) ∈ n → (q, tup its.toArray k4) ∈ n → (pa, tup its.toArray k5) ∈ n → (ty, listOf tys.toArray c) ∈ n → TysAt n tys ds → its.length = ds.length → its.length ≤ 2 → RGs w n its → NmRow nm num ds → HS w n t hd (.int (num : Int) tv) pa ty (Str.ofString "adt") its ds (.vrnt num its)
theorem HS.adtI {w : World} {n : List (Addr × Obj)} {t hd pa ty a1 a2 q : Addr} {nm : Str} {its tys : List Value} {ds : List PyData} {u u2 tn tv : Tok} {i : Int} {k k1 k2 k3 k4 k5 c : Nat} (h0 : 0 ≤ i) (x1 : (t, tup #[.str (Str.ofString "adt") u, .str nm u2, .ref a1, .ref a2] k) ∈ n) (x2 : (a1, tup #[] k1) ∈ n) (x3 : (a2, tup #[] k2) ∈ n) (x4 : (hd, tup #[.int i tn, .ref q] k3) ∈ n) (x5 : (q, tup its.toArray k4) ∈ n) (x6 : (pa, tup its.toArray k5) ∈ n) (x7 : (ty, listOf tys.toArray c) ∈ n) (x8 : TysAt n tys ds) (x9 : its.length = ds.length) (y1 : its.length ≤ 2) (y2 : RGs w n its) (y3 : NmRow nm i.toNat ds) : HS w n t hd (.int i tv) pa ty (Str.ofString "adt") its ds (.vrnt i its) := by
  obtain ⟨m, rfl⟩ := Int.eq_ofNat_of_zero_le h0
  exact .adt x1 x2 x3 x4 x5 x6 x7 x8 x9 y1 y2 y3
theorem rg_int {w : World} {n : List (Addr × Obj)} {i : Int} {t : Tok} : RG w n (.int i t) := ⟨_, .int, rfl, by show 0 ≤ 8; decide⟩
theorem rg_bool {w : World} {n : List (Addr × Obj)} {b : Bool} : RG w n (.bool b) := ⟨_, .bool, rfl, by show 0 ≤ 8; decide⟩
theorem RGs.take {w : World} {n : List (Addr × Obj)} {vs : List Value} (h : RGs w n vs) (m : Nat) : RGs w n (vs.take m) := fun v hv => h v (List.mem_of_mem_take hv)
theorem TysAt.take {n : List (Addr × Obj)} {vs : List Value} {ds : List PyData} (h : TysAt n vs ds) : ∀ m, TysAt n (vs.take m) (ds.take m) := by
  induction h with
  | nil => intro m; simp only [List.take_nil]; exact .nil
  | cons a _ ih =>
    intro m
    rcases m with _ | m
    · exact .nil
    · exact .cons a (ih m)
theorem TysAt.rep {n : List (Addr × Obj)} {v : Value} {d : PyData} (h : TyAt n v d) : ∀ m, TysAt n (List.replicate m v) (List.replicate m d)
  | 0 => .nil
  | m + 1 => .cons h (TysAt.rep h m)
theorem fr_or {D t : Addr} {l1 l2 l' : List (Addr × Obj)} (h : D = t ∨ AllLt D l1) (ht : AllLt t l2) (s1 : ∀ q ∈ l', ∃ o, (q.1, o) ∈ l1) (s2 : ∀ q ∈ l', ∃ o, (q.1, o) ∈ l2) : AllLt D l' := allLt_of fun q hq => (by
  rcases h with rfl | h
  · obtain ⟨_, m⟩ := s2 q hq; exact allLt_mem ht m
  · obtain ⟨_, m⟩ := s1 q hq; exact allLt_mem h m)
theorem rot_take {h₀ h : Heap} {L : Addr} {l rst : List (Addr × Obj)} {q : Addr × Obj} (k : Nat) (N : News h₀ L h l) (e : l.drop k = q :: rst) : News h₀ L h (q :: (rst ++ l.take k)) := fun p hp => N p (by
  have sub : ∀ p ∈ q :: rst, p ∈ l := fun p hp => List.mem_of_mem_drop (e ▸ hp)
  rcases List.mem_cons.mp hp with rfl | hp
  · exact sub _ (.head _)
  · rcases List.mem_append.mp hp with hp | hp
    · exact sub _ (.tail _ hp)
    · exact List.mem_of_mem_take hp)
theorem eq_dec {prog : Program} {w : World} {A : Around} {E : Value → Shared → Prop} {s : Shared} {a b : Int} {t u : Tok} {Q : Value → Shared → Prop} (hu : A.units + 64 < cLine) (hq : ∀ x : Bool, Q (.bool x) s) : wpAny (model prog w) A (compareOp .Eq (.int a t) (.int b u)) Q E s :=
  eq_dataH (.int a t) (.int b u) rfl rfl hu (hq _)
theorem len_tk {prog : Program} {w : World} {A : Around} {E : Value → Shared → Prop} {s : Shared} {h₀ : Heap} {L : Addr} {news : List (Addr × Obj)} {x : Addr} {a b : Value} {m k : Nat} {Q : Value → Shared → Prop} (N : News h₀ L s.heap news) (hm : (x, tup ([a, b].take m).toArray k) ∈ news) (h2 : m ≤ 2) (h : Q (.int (m : Int) (s.toks + 1)) { s with toks := s.toks + 1 + 1 }) : wpAny (model prog w) A (call (.builtin "len") [.ref x]) Q E s := by
  have e : ([a, b].take m).length = m := by rw [List.length_take]; simp; omega
  exact len_tupL N hm (by omega) (by rw [e]; exact h)
set_option maxRecDepth 100000 in
set_option maxHeartbeats 8000000 in
theorem handed_ok {prog : Program} {w : World} {p : Program} {loose : List Str} {mean : ExcName → Option Value} {mg mb : Str → Option Value} {dp un : Nat} {gd : Option (List Code)} {cn : Str} {cs : Scope} {a : Addr} {ccd : Value} {cl : List (Str × Addr)} {outer : List Env} {A₀ : Around} {base h₀ : Heap} {L : Addr} {m : Str → Option Value} {s : Shared} {Q E : Value → Shared → Prop} {news : List (Addr × Obj)}
    (B : Below A₀ base outer h₀) (F : Fr h₀ L s.heap m) (X : (Mine.kmk.heap_1 w.params).In h₀) (N : News h₀ L s.heap news) (T : Top p loose mean mg mb h₀) (hk : cs.kind = .function)
    {src : Addr} {o : Obj} {g : Obj → List (Addr × Obj)} (U : UpdF src o news g) (ho : SrcOk o) 
    (ret : ∀ R t hd vv pa ty hx its ds sh kR tl o' h' tk', Fr h₀ L h' m → News h₀ L h' (g o' ++ tl) → SrcOk o' → (R, tup #[.ref t, .ref hd, vv, .ref pa, .ref ty] kR) ∈ tl → HS w tl t hd vv pa ty hx its ds sh → (∀ p ∈ tl, AllLt p.1 news) → Q (.ref R) { s with heap := h', toks := tk' }) :
    wpAny (model prog w) (ktrTop 304 16 gd cn cs L a ccd cl outer) (call (.ref 256) [.ref src]) Q E s := by
  obtain ⟨rst, N1, hr, hlt, hret⟩ := src_head N U
  clear N U
  have N := N1
  clear N1
  refine wpAny_call ?_
  k_dflt ktr_enter
  (repeat' (first | (k_unfold; (try dsimp only)) | (k_end; wrow_close) | ((with_reducible show wpAny _ _ (compareOp CmpOp.Eq (Value.int _ _) (Value.int _ _)) _ _ _); refine hold ?_) | (((with_reducible show wpAny _ _ (call (Value.ref 211) [Value.ref _, Value.int _ _]) _ _ _); k_dflt (refine' take_ok ?B ?F ?X ?N ?T ?hk ?U ?ho ?h1 ?h2 ?hd ?hu ?_; (case B => k_asm); (case F => k_asm); (case X => k_asm); (case N => k_asm); (case T => k_asm); (case hk => first | exact rfl | assumption); (case U => k_updF); (case ho => assumption); (case h1 => first | omega | (simp only [List.size_toArray, List.length_cons, List.length_nil]; omega)); (case h2 => first | omega | (simp only [List.size_toArray, List.length_cons, List.length_nil]; omega)); (case hd => ktr_room); (case hu => ktr_units)); intro dT tT oT hT tkT hdT hdT2 hoT F' N'; (try dsimp only at N'); (try k_sweep))) | ((with_reducible show wpAny _ _ (storeName _ _ _) _ _ _); (k_dflt (refine store_o (by k_asm) (by k_asm) ?_ (by first | exact rfl | assumption) (by rfl)); intro hw7 mw7 Fw7 Nw7)) | ((with_reducible show wpAny _ _ (newTuple _) _ _ _); (k_dflt (refine tuple_o (by k_asm) (by k_asm) (by size_fits) ?_); intro Dw7 hw7 ow7 Fw7 Nw7 lw7)) | ((with_reducible show wpAny _ _ (eval (PySem.Expr.Call (PySem.Expr.Name _ _) (_ :: _) [] _) _) _ _ _); (k_dflt (refine call_svs (by rfl) (by first | exact rfl | assumption) (by k_asm) (by k_asm) (by k_asm) (by k_is) (by k_is) (by rfl) ?_))) | ((with_reducible show wpAny _ _ (eval (PySem.Expr.Tuple _ _ _) _) _ _ _); (k_dflt (refine tuple_svs (by rfl) (by first | exact rfl | assumption) (by k_asm) (by k_asm) (by rfl) (by size_fits) ?_); intro Dw7 hw7 ow7 Fw7 Nw7 lw7)) | ((with_reducible show wpAny _ _ (execs (_ :: _) _) _ _ _); ((with_reducible refine Mine.gen_tok ?_); intro tk; (with_reducible refine wpAny_execs_cons ?_); (try dsimp only))) | walk1 | (dsimp only; walk1) | (leave1; walk_say "STEP leave1"; try dsimp only) | fail "no step"))
  unfold Hold
  k_dflt (refine eq_dec (by ktr_units) fun ob => ?_)
  (repeat' (first | (k_unfold; (try dsimp only)) | (k_end; wrow_close) | (((with_reducible show wpAny _ _ (subscriptTail _ (PySem.Expr.Slice none (some _) none _) (Value.ref _) (Value.ref _)) _ _ _); k_dflt (first | (refine tup_to (vs := [_, _]) (b := Int.toNat _) (by k_asm) (by k_asm) (by lcg_src) (Int.toNat_of_nonneg (by with_reducible assumption)).symm (by simp only [List.length_cons, List.length_nil]; omega) (by simp) ?_; intro DS nS h' F' N' lS) | (refine list_to (vs := [_, _]) (b := Int.toNat _) (by k_asm) (by k_asm) (by lcg_src) (Int.toNat_of_nonneg (by with_reducible assumption)).symm (by simp only [List.length_cons, List.length_nil]; omega) (by simp) ?_; intro DS h' F' N' lS)))) | ((with_reducible show wpAny _ _ (binaryOp Operator.Mult (Value.ref _) (Value.int _ _)) _ _ _); (k_dflt (refine mul_one (by k_asm) (by k_asm) (by lcg_src) (by omega) ?_); intro DL h' F' N' lL)) | ((with_reducible show wpAny _ _ (call (Value.builtin "len") [_]) _ _ _); (k_dflt (refine len_tk (by k_asm) (by lcg_src) (by omega) ?_))) | (((with_reducible show wpAny _ _ (call (Value.ref 211) [Value.ref _, Value.int _ _]) _ _ _); k_dflt (refine' take_ok ?B ?F ?X ?N ?T ?hk ?U ?ho ?h1 ?h2 ?hd ?hu ?_; (case B => k_asm); (case F => k_asm); (case X => k_asm); (case N => k_asm); (case T => k_asm); (case hk => first | exact rfl | assumption); (case U => k_updF); (case ho => assumption); (case h1 => first | omega | (simp only [List.size_toArray, List.length_cons, List.length_nil]; omega)); (case h2 => first | omega | (simp only [List.size_toArray, List.length_cons, List.length_nil]; omega)); (case hd => ktr_room); (case hu => ktr_units)); intro dT tT oT hT tkT hdT hdT2 hoT F' N'; (try dsimp only at N'); (try k_sweep))) | ((with_reducible show wpAny _ _ (storeName _ _ _) _ _ _); (k_dflt (refine store_o (by k_asm) (by k_asm) ?_ (by first | exact rfl | assumption) (by rfl)); intro hw7 mw7 Fw7 Nw7)) | ((with_reducible show wpAny _ _ (newList _) _ _ _); (k_dflt (refine list_o (by k_asm) (by k_asm) (by size_fits) ?_); intro Dw7 hw7 ow7 Fw7 Nw7 lw7)) | ((with_reducible show wpAny _ _ (newTuple _) _ _ _); (k_dflt (refine tuple_o (by k_asm) (by k_asm) (by size_fits) ?_); intro Dw7 hw7 ow7 Fw7 Nw7 lw7)) | ((with_reducible show wpAny _ _ (eval (PySem.Expr.Call (PySem.Expr.Name _ _) (_ :: _) [] _) _) _ _ _); (k_dflt (refine call_svs (by rfl) (by first | exact rfl | assumption) (by k_asm) (by k_asm) (by k_asm) (by k_is) (by k_is) (by rfl) ?_))) | ((with_reducible show wpAny _ _ (PySem.isTrue (PySem.Expr.Compare _ [_] [_] _) _ _) _ _ _); (k_dflt (first | refine isTrue_sv (by rfl) (by first | exact rfl | assumption) (by k_asm) (by rfl) (by rfl) ?_ | refine isTrue_sub (by rfl) (by first | exact rfl | assumption) (by k_asm) (by rfl) (by rfl) ?_); (try dsimp only))) | ((with_reducible show wpAny _ _ (eval (PySem.Expr.List _ _) _) _ _ _); (k_dflt (refine list_svs (by rfl) (by first | exact rfl | assumption) (by k_asm) (by k_asm) (by rfl) (by size_fits) ?_); intro Dw7 hw7 ow7 Fw7 Nw7 lw7)) | ((with_reducible show wpAny _ _ (eval (PySem.Expr.Tuple _ _ _) _) _ _ _); (k_dflt (refine tuple_svs (by rfl) (by first | exact rfl | assumption) (by k_asm) (by k_asm) (by rfl) (by size_fits) ?_); intro Dw7 hw7 ow7 Fw7 Nw7 lw7)) | ((with_reducible show wpAny _ _ (spliced (backTo _ (starEach (_ :: _) _))) _ _ _); (k_dflt (refine spl_g (by rfl) (by first | exact rfl | assumption) (by k_asm) (by rfl) ?_))) | ((with_reducible show wpAny _ _ (execs [] _) _ _ _); ((with_reducible refine Mine.gen_tok ?_); intro tk; (with_reducible refine wpAny_execs_nil ?_); (try dsimp only))) | ((with_reducible show wpAny _ _ (execs (_ :: _) _) _ _ _); ((with_reducible refine Mine.gen_tok ?_); intro tk; (with_reducible refine wpAny_execs_cons ?_); (try dsimp only))) | walk1 | (dsimp only; walk1) | (leave1; walk_say "STEP leave1"; try dsimp only) | fail "no step"))
  · have NF := hret _ _ _ (rot_take 11 (by k_asm) rfl)
    dsimp only [List.take] at NF
    exact ret _ _ _ _ _ _ _ _ _ _ _ _ _ _ _ (by k_asm) NF (by with_reducible assumption) (.head _) (HS.tu (its := [_, _]) (tys := [_, _]) (tys' := [_, _]) (ds := [intD, boolD]) (by lcg_src) (by lcg_src) (.cons (.int (by lcg_src)) (.cons (.bool (by lcg_src)) .nil)) (by lcg_src) (by lcg_src) (by lcg_src) (.cons (.int (by lcg_src)) (.cons (.bool (by lcg_src)) .nil)) rfl (by simp) (.cons rg_int (.cons rg_bool .nil))) (lts_for NF hlt (by repeat' (first | exact lt_nil | refine lt_cons (allLt_src (by with_reducible assumption) (by lcg_src) (by intro p hp; lcg_src)) ?_)))
  · have NF := hret _ _ _ (rot_take 9 (by k_asm) rfl)
    dsimp only [List.take] at NF
    exact ret _ _ _ _ _ _ _ _ _ _ _ _ _ _ _ (by k_asm) NF (by with_reducible assumption) (.head _) (HS.tu (its := []) (tys := []) (tys' := []) (ds := []) (by lcg_src) (by lcg_src) .nil (by lcg_src) (by lcg_src) (by lcg_src) .nil rfl (by simp) .nil) (lts_for NF hlt (by repeat' (first | exact lt_nil | refine lt_cons (allLt_src (by with_reducible assumption) (by lcg_src) (by intro p hp; lcg_src)) ?_)))
  · have NF := hret _ _ _ (rot_take 9 (by k_asm) rfl)
    dsimp only [List.take] at NF
    exact ret _ _ _ _ _ _ _ _ _ _ _ _ _ _ _ (by k_asm) NF (by with_reducible assumption) (.head _) (HS.arr (m := Int.toNat _) (its := List.take _ [_, _]) (by lcg_src) (.int (by lcg_src)) (by lcg_src) (by lcg_src) (by lcg_src) (TysAt.rep (.int (by lcg_src)) _) (by rw [List.length_take]; simp; omega) (by omega) ((RGs.cons rg_int (.cons rg_int .nil)).take _)) (lts_for NF hlt (by repeat' (first | exact lt_nil | refine lt_cons (allLt_src (by with_reducible assumption) (by lcg_src) (by intro p hp; lcg_src)) ?_ | refine lt_cons (fr_or (by with_reducible assumption) (by with_reducible assumption) (by intro q hq; rcases List.mem_cons.mp hq with rfl | hq; exact ⟨_, by lcg_src⟩; exact ⟨q.2, by lcg_src⟩) (by intro q hq; rcases List.mem_cons.mp hq with rfl | hq; exact ⟨_, by lcg_src⟩; exact ⟨q.2, by lcg_src⟩)) ?_)))
  · have NF := hret _ _ _ (rot_take 8 (by k_asm) rfl)
    dsimp only [List.take] at NF
    exact ret _ _ _ _ _ _ _ _ _ _ _ _ _ _ _ (by k_asm) NF (by with_reducible assumption) (.head _) (HS.box (by lcg_src) (.int (by lcg_src)) (by lcg_src) (by lcg_src) (by lcg_src) (.int (by lcg_src)) rg_int) (lts_for NF hlt (by repeat' (first | exact lt_nil | refine lt_cons (allLt_src (by with_reducible assumption) (by lcg_src) (by intro p hp; lcg_src)) ?_ | refine lt_cons (fr_or (by with_reducible assumption) (by with_reducible assumption) (by intro q hq; rcases List.mem_cons.mp hq with rfl | hq; exact ⟨_, by lcg_src⟩; exact ⟨q.2, by lcg_src⟩) (by intro q hq; rcases List.mem_cons.mp hq with rfl | hq; exact ⟨_, by lcg_src⟩; exact ⟨q.2, by lcg_src⟩)) ?_)))
  · have NF := hret _ _ _ (rot_take 12 (by k_asm) rfl)
    dsimp only [List.take] at NF
    exact ret _ _ _ _ _ _ _ _ _ _ _ _ _ _ _ (by k_asm) NF (by with_reducible assumption) (.head _) (HS.adt (num := 0) (its := [_, _]) (tys := [_, _]) (by lcg_src) (by lcg_src) (by lcg_src) (by lcg_src) (by lcg_src) (by lcg_src) (by lcg_src) (.cons (.bool (by lcg_src)) (.cons (.int (by lcg_src)) .nil)) rfl (by simp) (.cons rg_bool (.cons rg_int .nil)) .s) (lts_for NF hlt (by repeat' (first | exact lt_nil | refine lt_cons (allLt_src (by with_reducible assumption) (by lcg_src) (by intro p hp; lcg_src)) ?_ | refine lt_cons (fr_or (by with_reducible assumption) (by with_reducible assumption) (by intro q hq; rcases List.mem_cons.mp hq with rfl | hq; exact ⟨_, by lcg_src⟩; exact ⟨q.2, by lcg_src⟩) (by intro q hq; rcases List.mem_cons.mp hq with rfl | hq; exact ⟨_, by lcg_src⟩; exact ⟨q.2, by lcg_src⟩)) ?_)))
  · have NF := hret _ _ _ (rot_take 14 (by k_asm) rfl)
    dsimp only [List.take] at NF
    exact ret _ _ _ _ _ _ _ _ _ _ _ _ _ _ _ (by k_asm) NF (by with_reducible assumption) (.head _) (HS.adtI hdT (its := List.take _ [_, _]) (tys := List.take _ [_, _]) (by lcg_src) (by lcg_src) (by lcg_src) (by lcg_src) (by lcg_src) (by lcg_src) (by lcg_src) (TysAt.take (.cons (.int (by lcg_src)) (.cons (.bool (by lcg_src)) .nil)) _) (by rw [List.length_take, List.length_take]; rfl) (by rw [List.length_take]; exact Nat.min_le_right _ _) ((RGs.cons rg_int (.cons rg_bool .nil)).take _) (.e (by omega))) (lts_for NF hlt (by repeat' (first | exact lt_nil | refine lt_cons (allLt_src (by with_reducible assumption) (by lcg_src) (by intro p hp; lcg_src)) ?_ | refine lt_cons (fr_or (by with_reducible assumption) (by with_reducible assumption) (by intro q hq; rcases List.mem_cons.mp hq with rfl | hq; exact ⟨_, by lcg_src⟩; exact ⟨q.2, by lcg_src⟩) (by intro q hq; rcases List.mem_cons.mp hq with rfl | hq; exact ⟨_, by lcg_src⟩; exact ⟨q.2, by lcg_src⟩)) ?_)))
end Mine
end
section
namespace Mine
open PySem.Spec PySem.Calls


theorem ne_or {D t x : Addr} {o o' : Obj} {l1 l2 : List (Addr × Obj)} (h : D = t ∨ AllLt D l1) (ht : AllLt t l2) (m1 : (x, o) ∈ l1) (m2 : (x, o') ∈ l2) : D ≠ x := by
  rcases h with rfl | h
  · exact Nat.ne_of_gt (allLt_mem ht m2)
  · exact Nat.ne_of_gt (allLt_mem h m1)
inductive Bent (n : List (Addr × Obj)) : Addr → Value → Prop
  | not {t v} : NotTup n v → Bent n t v
  | tupL {t tt v : Addr} {tys its : List Value} {u k k1 k2} : (t, tup #[.str (Str.ofString "tuple") u, .ref tt] k) ∈ n → (tt, tup tys.toArray k1) ∈ n → (v, tup its.toArray k2) ∈ n → tys.length ≤ 9 → its.length ≤ 3 → its.length ≠ tys.length → Bent n t (.ref v)
  | arrL {t v : Addr} {ty0 : Value} {its : List Value} {m : Nat} {u u2 k k2} : (t, tup #[.str (Str.ofString "array") u, ty0, .int (m : Int) u2] k) ∈ n → (v, tup its.toArray k2) ∈ n → m ≤ 9 → its.length ≤ 3 → its.length ≠ m → Bent n t (.ref v)
  | len {t v : Addr} {h : Str} {r : List Value} {v0 v1 v2 : Value} {u k k2} : (t, tup (.str h u :: r).toArray k) ∈ n → h = Str.ofString "box" ∨ h = Str.ofString "adt" → (v, tup #[v0, v1, v2] k2) ∈ n → Bent n t (.ref v)
  | boxH {t v : Addr} {ty0 v0 v1 : Value} {u k k2} : (t, tup #[.str (Str.ofString "box") u, ty0] k) ∈ n → (v, tup #[v0, v1] k2) ∈ n → HeadB v0 false → Bent n t (.ref v)
  | adtB {t v a1 a2 : Addr} {nm : Str} {i : Int} {pv : Value} {o : Option (List Value)} {num : Nat} {ds : List PyData} {u u2 ti k k1 k2 k3} : (t, tup #[.str (Str.ofString "adt") u, .str nm u2, .ref a1, .ref a2] k) ∈ n → (a1, tup #[] k1) ∈ n → (a2, tup #[] k2) ∈ n → (v, tup #[.int i ti, pv] k3) ∈ n → PartOf n pv o → NmRow nm num ds → ds.length ≤ 2 → (i = 3 ∨ i = -1 ∨ (i = num ∧ ∀ its, o = some its → its.length ≠ ds.length)) → Bent n t (.ref v)
theorem HS.hd {w n t hd vv pa ty h its ds sh} (H : HS w n t hd vv pa ty h its ds sh) : ∃ vs k, (hd, tup (List.toArray vs) k) ∈ n ∧ vs.length ≤ 2 := by
  cases H with
  | tu a b c d e f g i j l => exact ⟨_, _, d, j⟩
  | arr a b c d e f g i j => exact ⟨_, _, c, by omega⟩
  | box a b c d e f g => exact ⟨[_, _], _, c, by simp⟩
  | adt a b c d e f g i j l q r => exact ⟨[_, _], _, d, by simp⟩
theorem HS.hT {w n t hd vv pa ty h its ds sh} (H : HS w n t hd vv pa ty h its ds sh) : ∃ u r k, (t, tup (List.toArray (Value.str h u :: r)) k) ∈ n := by
  cases H with
  | tu a b c d e f g i j l => exact ⟨_, _, _, a⟩
  | arr a b c d e f g i j => exact ⟨_, _, _, a⟩
  | box a b c d e f g => exact ⟨_, _, _, a⟩
  | adt a b c d e f g i j l q r => exact ⟨_, _, _, a⟩
theorem add_snoc {prog : Program} {w : World} {A : Around} {E : Value → Shared → Prop} {s : Shared} {h₀ : Heap} {L : Addr} {m : Str → Option Value} {news : List (Addr × Obj)} {l b : Addr} {xs : List Value} {x : Value} {n1 n2 : Nat} {Q : Value → Shared → Prop} (F : Fr h₀ L s.heap m) (N : News h₀ L s.heap news) (h1 : (l, tup xs.toArray n1) ∈ news) (h2 : (b, tup #[x] n2) ∈ news) (hz : xs.length ≤ 9)
    (h : ∀ T n h', Fr h₀ L h' m → News h₀ L h' ((T, tup (xs ++ [x]).toArray n) :: news) → (T = b ∨ AllLt T news) → Q (.ref T) { s with heap := h' }) : wpAny (model prog w) A (binaryOp .Add (.ref l) (.ref b)) Q E s := by
  refine add_tups F N h1 h2 (by simp only [List.size_toArray, List.length_cons, List.length_nil]; omega) fun T n h' tl F' N' hm _ ho => ?_
  have e : xs.toArray ++ #[x] = (xs ++ [x]).toArray := by simp
  rw [e] at hm
  refine h T n h' F' (fun p hp => ?_) ?_
  · rcases List.mem_cons.mp hp with rfl | hp
    · exact N' _ hm
    · exact N' p (List.mem_append_right _ hp)
  · rcases ho with rfl | ho
    · exfalso
      have a := (N' _ hm).1
      have c := (N' _ (List.mem_append_right _ h1)).1
      dsimp only at a c
      rw [a] at c
      have z := congrArg (fun o : Option Obj => match o with | some ⟨_, _, .seq xs _, _⟩ => xs.size | _ => 0) c
      simp at z
    · exact ho
set_option maxRecDepth 100000 in
set_option maxHeartbeats 8000000 in
theorem bent_ok {prog : Program} {w : World} {p : Program} {loose : List Str} {mean : ExcName → Option Value} {mg mb : Str → Option Value} {dp un : Nat} {gd : Option (List Code)} {cn : Str} {cs : Scope} {a : Addr} {ccd : Value} {cl : List (Str × Addr)} {outer : List Env} {A₀ : Around} {base h₀ : Heap} {L : Addr} {m : Str → Option Value} {s : Shared} {Q E : Value → Shared → Prop} {news : List (Addr × Obj)}
    (B : Below A₀ base outer h₀) (F : Fr h₀ L s.heap m) (X : (Mine.kmk.heap_1 w.params).In h₀) (N : News h₀ L s.heap news) (T : Top p loose mean mg mb h₀) (hk : cs.kind = .function)
    {src : Addr} {o : Obj} {g : Obj → List (Addr × Obj)} (U : UpdF src o news g) (ho : SrcOk o) {n : List (Addr × Obj)} {t hd pa ty : Addr} {vv : Value} {hx : Str} {its : List Value} {ds : List PyData} {sh : Shp} (H : HS w n t hd vv pa ty hx its ds sh) (hn : ∀ p ∈ n, p ∈ news ∧ p.1 ≠ src)
    (ret : ∀ v tl o' h' tk', Fr h₀ L h' m → News h₀ L h' (g o' ++ tl) → SrcOk o' → Bent (tl ++ n) t v → (∀ p ∈ tl, AllLt p.1 news) → Q v { s with heap := h', toks := tk' }) :
    wpAny (model prog w) (ktrTop 304 16 gd cn cs L a ccd cl outer) (call (.ref 263) [.ref src, .ref t, .ref hd]) Q E s := by
  obtain ⟨own, rest, rfl, hgr, hr1, hr2⟩ := U.split
  have hn' : ∀ p ∈ n, p ∈ own ++ rest := fun p hp => by
    obtain ⟨h1, h2⟩ := hn p hp
    rcases List.mem_append.mp h1 with h | h
    · exact List.mem_append_left _ h
    · rcases List.mem_cons.mp h with rfl | h
      · exact absurd rfl h2
      · exact List.mem_append_right _ h
  obtain ⟨vs0, k0, hH, hH2⟩ := H.hd
  obtain ⟨u0, r0, k1, hT⟩ := H.hT
  have hHm := hn' _ hH
  have hTm := hn' _ hT
  have hr : ∀ p ∈ own ++ rest, p.1 ≠ src := fun p hp => (List.mem_append.mp hp).elim (hr1 p) (hr2 p)
  have N9 : News h₀ L s.heap ((src, o) :: (own ++ rest)) := news_sub N fun p hp => by
    simp only [List.mem_cons, List.mem_append] at hp ⊢
    rcases hp with hp | hp | hp <;> simp only [hp, true_or, or_true]
  have hret : ∀ o' h' l tl, News h₀ L h' l → (src, o') ∈ l → (∀ p ∈ own ++ rest, p ∈ l) → (∀ p ∈ tl, p ∈ l) → News h₀ L h' (g o' ++ tl) := fun o' h' l tl N' h1 h2 h3 p hp => N' p (by
    rw [hgr] at hp
    simp only [List.mem_append, List.mem_cons] at hp
    rcases hp with (hp | rfl | hp) | hp
    · exact h2 p (List.mem_append_left _ hp)
    · exact h1
    · exact h2 p (List.mem_append_right _ hp)
    · exact h3 p hp)
  have hlt : ∀ d, AllLt d ((src, o) :: (own ++ rest)) → AllLt d (own ++ (src, o) :: rest) := fun d h => allLt_suf h fun p hp => by
    simp only [List.mem_cons, List.mem_append] at hp ⊢
    rcases hp with hp | hp | hp <;> simp only [hp, true_or, or_true]
  clear N U
  have hv9 : vs0.length ≤ 9 := by omega
  refine wpAny_call ?_
  k_dflt ktr_enter
  (repeat' (first | (k_unfold; (try dsimp only)) | (k_end; wrow_close) | ((with_reducible show wpAny _ _ (compareOp CmpOp.In _ _) _ _ _); refine hold ?_) | (((with_reducible show wpAny _ _ (call (Value.ref 218) [Value.ref _, Value.ref _]) _ _ _); k_dflt (refine' one_ok ?B ?F ?X ?N ?T ?hk ?U ?ho ?hm ?hne ?h1 ?h2 ?hd ?hu ?_; (case B => k_asm); (case F => k_asm); (case X => k_asm); (case N => k_asm); (case T => k_asm); (case hk => first | exact rfl | assumption); (case U => k_updF); (case ho => assumption); (case hm => lcg_src); (case hne => k_ne); (case h1 => simp only [List.size_toArray, List.length_cons, List.length_nil]; omega); (case h2 => simp only [List.size_toArray, List.length_cons, List.length_nil]; omega); (case hd => ktr_room); (case hu => ktr_units)); intro vO oO hO tkO hvO hoO F' N'; (try dsimp only at N'))) | (((with_reducible show wpAny _ _ (call (Value.ref 211) [Value.ref _, Value.int _ _]) _ _ _); k_dflt (refine' take_ok ?B ?F ?X ?N ?T ?hk ?U ?ho ?h1 ?h2 ?hd ?hu ?_; (case B => k_asm); (case F => k_asm); (case X => k_asm); (case N => k_asm); (case T => k_asm); (case hk => first | exact rfl | assumption); (case U => k_updF); (case ho => assumption); (case h1 => first | omega | (simp only [List.size_toArray, List.length_cons, List.length_nil]; omega)); (case h2 => first | omega | (simp only [List.size_toArray, List.length_cons, List.length_nil]; omega)); (case hd => ktr_room); (case hu => ktr_units)); intro dT tT oT hT tkT hdT hdT2 hoT F' N'; (try dsimp only at N'); (try k_sweep))) | ((with_reducible show wpAny _ _ (call (Value.type "list") [_]) _ _ _); (k_dflt (refine listT (by k_asm) (by k_asm) (by lcg_src) (by with_reducible assumption) ?_); intro DL cL h' F' N' lL)) | (((with_reducible show wpAny _ _ (subscriptTail _ _ (Value.ref _) (Value.int 0 _)) _ _ _); k_dflt (refine item_at0 (by k_asm) (by lcg_src) ?_))) | ((with_reducible show wpAny _ _ (storeName _ _ _) _ _ _); (k_dflt (refine store_o (by k_asm) (by k_asm) ?_ (by first | exact rfl | assumption) (by rfl)); intro hw7 mw7 Fw7 Nw7)) | ((with_reducible show wpAny _ _ (newList _) _ _ _); (k_dflt (refine list_o (by k_asm) (by k_asm) (by size_fits) ?_); intro Dw7 hw7 ow7 Fw7 Nw7 lw7)) | ((with_reducible show wpAny _ _ (eval (PySem.Expr.Call (PySem.Expr.Name _ _) (_ :: _) [] _) _) _ _ _); (k_dflt (refine call_svs (by rfl) (by first | exact rfl | assumption) (by k_asm) (by k_asm) (by k_asm) (by k_is) (by k_is) (by rfl) ?_))) | ((with_reducible show wpAny _ _ (eval (PySem.Expr.Subscript _ _ _) _) _ _ _); (k_dflt (refine sub_sv (by rfl) (by first | exact rfl | assumption) (by k_asm) (by rfl) (by rfl) ?_))) | ((with_reducible show wpAny _ _ (PySem.isTrue (PySem.Expr.Compare _ [_] [_] _) _ _) _ _ _); (k_dflt (first | refine isTrue_sv (by rfl) (by first | exact rfl | assumption) (by k_asm) (by rfl) (by rfl) ?_ | refine isTrue_sub (by rfl) (by first | exact rfl | assumption) (by k_asm) (by rfl) (by rfl) ?_); (try dsimp only))) | ((with_reducible show wpAny _ _ (eval (PySem.Expr.Tuple _ _ _) _) _ _ _); (k_dflt (refine tuple_svs (by rfl) (by first | exact rfl | assumption) (by k_asm) (by k_asm) (by rfl) (by size_fits) ?_); intro Dw7 hw7 ow7 Fw7 Nw7 lw7)) | ((with_reducible show wpAny _ _ (spliced (backTo _ (starEach (_ :: _) _))) _ _ _); (k_dflt (refine spl_g (by rfl) (by first | exact rfl | assumption) (by k_asm) (by rfl) ?_))) | ((with_reducible show wpAny _ _ (callWith _ (Value.ref _) _ _ _) _ _ _); (k_here; k_dflt (first | refine' callWith_K ?k1 ?k2 ?_; (case k1 => k_asm); (case k2 => k_is); k_whole | refine' callWith_K0 ?k1 ?k2 ?_; (case k1 => k_in); (case k2 => k_is); k_whole); (try dsimp only [List.nil_append, List.append_nil]))) | ((with_reducible show wpAny _ _ (execs [] _) _ _ _); ((with_reducible refine Mine.gen_tok ?_); intro tk; (with_reducible refine wpAny_execs_nil ?_); (try dsimp only))) | ((with_reducible show wpAny _ _ (execs (_ :: _) _) _ _ _); ((with_reducible refine Mine.gen_tok ?_); intro tk; (with_reducible refine wpAny_execs_cons ?_); (try dsimp only))) | walk1 | (dsimp only; walk1) | (leave1; walk_say "STEP leave1"; try dsimp only) | fail "no step"))
  · obtain ⟨i9, e9⟩ := hvO
    have NF := hret _ _ _ [(DL, listOf vs0.toArray cL)] (by k_asm) (by lcg_src) (by intro p hp; lcg_src) (by intro p hp; rw [List.mem_singleton.mp hp]; lcg_src)
    have hLt : ∀ p ∈ [(DL, listOf vs0.toArray cL)], AllLt p.1 (own ++ (src, o) :: rest) := fun p hp => hlt _ ((List.mem_singleton.mp hp) ▸ allLt_src (by with_reducible assumption) (by lcg_src) (by intro p hp; lcg_src))
    rcases i9 with _ | _ | _ | i9
    all_goals (try (simp at e9; done))
    all_goals (simp only [Nat.zero_add, List.getElem?_toArray, List.getElem?_cons_succ, List.getElem?_cons_zero, Option.some.injEq] at e9; subst e9)
    · exact ret _ _ _ _ _ (by k_asm) NF (by with_reducible assumption) (.not .int) hLt
    · exact ret _ _ _ _ _ (by k_asm) NF (by with_reducible assumption) (.not .bool) hLt
    · exact ret _ _ _ _ _ (by k_asm) NF (by with_reducible assumption) (.not (.list (.head _))) hLt
  · unfold Hold
    cases H with
    | tu a1 a2 a3 a4 a5 a6 a7 a8 a9 b1 =>
      have a4m := hn' _ a4
      have e3 := a3.len
      clear hHm hH
      (repeat' (first | (k_unfold; (try dsimp only)) | (k_end; wrow_close) | ((with_reducible show wpAny _ _ (binaryOp Operator.Add (Value.ref _) (Value.ref _)) _ _ _); (k_dflt (refine add_snoc (by k_asm) (by k_asm) (by lcg_src) (by lcg_src) (by first | omega | simp) ?_); intro TA nA h' F' N' horA; (have neA : TA ≠ src := ne_or horA (by with_reducible assumption) (by lcg_src) (by lcg_src)))) | ((with_reducible show wpAny _ _ (eval (PySem.Expr.Tuple _ _ _) _) _ _ _); (k_dflt (refine tuple_svs (by rfl) (by first | exact rfl | assumption) (by k_asm) (by k_asm) (by rfl) (by size_fits) ?_); intro Dw7 hw7 ow7 Fw7 Nw7 lw7)) | ((with_reducible show wpAny _ _ (execs (_ :: _) _) _ _ _); ((with_reducible refine Mine.gen_tok ?_); intro tk; (with_reducible refine wpAny_execs_cons ?_); (try dsimp only))) | walk1 | (dsimp only; walk1) | (leave1; walk_say "STEP leave1"; try dsimp only) | fail "no step"))
      exact ret _ [(TA, tup (its ++ [Value.int 1 _]).toArray nA)] _ _ _ (by k_asm) (hret _ _ _ _ (by k_asm) (by lcg_src) (by intro p hp; lcg_src) (by intro p hp; rw [List.mem_singleton.mp hp]; lcg_src)) (by with_reducible assumption) (.tupL (.tail _ a1) (.tail _ a2) (.head _) (by omega) (by rw [List.length_append]; simp; omega) (by rw [List.length_append]; simp; omega)) (fun p hp => (List.mem_singleton.mp hp) ▸ (hlt _ (fr_or (by with_reducible assumption) (by with_reducible assumption) (by intro q hq; rcases List.mem_cons.mp hq with rfl | hq; exact ⟨_, by lcg_src⟩; exact ⟨q.2, by lcg_src⟩) (by intro q hq; rcases List.mem_cons.mp hq with rfl | hq; exact ⟨_, by lcg_src⟩; exact ⟨q.2, by lcg_src⟩))))
    | arr a1 a2 a3 a4 a5 a6 a7 a8 a9 =>
      have a3m := hn' _ a3
      clear hHm hH
      (repeat' (first | (k_unfold; (try dsimp only)) | (k_end; wrow_close) | ((with_reducible show wpAny _ _ (binaryOp Operator.Add (Value.ref _) (Value.ref _)) _ _ _); (k_dflt (refine add_snoc (by k_asm) (by k_asm) (by lcg_src) (by lcg_src) (by first | omega | simp) ?_); intro TA nA h' F' N' horA; (have neA : TA ≠ src := ne_or horA (by with_reducible assumption) (by lcg_src) (by lcg_src)))) | ((with_reducible show wpAny _ _ (eval (PySem.Expr.Tuple _ _ _) _) _ _ _); (k_dflt (refine tuple_svs (by rfl) (by first | exact rfl | assumption) (by k_asm) (by k_asm) (by rfl) (by size_fits) ?_); intro Dw7 hw7 ow7 Fw7 Nw7 lw7)) | ((with_reducible show wpAny _ _ (execs (_ :: _) _) _ _ _); ((with_reducible refine Mine.gen_tok ?_); intro tk; (with_reducible refine wpAny_execs_cons ?_); (try dsimp only))) | walk1 | (dsimp only; walk1) | (leave1; walk_say "STEP leave1"; try dsimp only) | fail "no step"))
      exact ret _ [(TA, tup (its ++ [Value.int 1 _]).toArray nA)] _ _ _ (by k_asm) (hret _ _ _ _ (by k_asm) (by lcg_src) (by intro p hp; lcg_src) (by intro p hp; rw [List.mem_singleton.mp hp]; lcg_src)) (by with_reducible assumption) (.arrL (.tail _ a1) (.head _) (by omega) (by rw [List.length_append]; simp; omega) (by rw [List.length_append]; simp; omega)) (fun p hp => (List.mem_singleton.mp hp) ▸ (hlt _ (fr_or (by with_reducible assumption) (by with_reducible assumption) (by intro q hq; rcases List.mem_cons.mp hq with rfl | hq; exact ⟨_, by lcg_src⟩; exact ⟨q.2, by lcg_src⟩) (by intro q hq; rcases List.mem_cons.mp hq with rfl | hq; exact ⟨_, by lcg_src⟩; exact ⟨q.2, by lcg_src⟩))))
    | box a1 a2 a3 a4 a5 a6 a7 =>
      have a3m := hn' _ a3
      clear hHm hH
      (repeat' (first | (k_unfold; (try dsimp only)) | (k_end; wrow_close) | ((with_reducible show wpAny _ _ (binaryOp Operator.Add (Value.ref _) (Value.ref _)) _ _ _); (k_dflt (refine add_snoc (by k_asm) (by k_asm) (by lcg_src) (by lcg_src) (by first | omega | simp) ?_); intro TA nA h' F' N' horA; (have neA : TA ≠ src := ne_or horA (by with_reducible assumption) (by lcg_src) (by lcg_src)))) | (((with_reducible show wpAny _ _ (call (Value.ref 218) [Value.ref _, Value.ref _]) _ _ _); k_dflt (refine' one_ok ?B ?F ?X ?N ?T ?hk ?U ?ho ?hm ?hne ?h1 ?h2 ?hd ?hu ?_; (case B => k_asm); (case F => k_asm); (case X => k_asm); (case N => k_asm); (case T => k_asm); (case hk => first | exact rfl | assumption); (case U => k_updF); (case ho => assumption); (case hm => lcg_src); (case hne => k_ne); (case h1 => simp only [List.size_toArray, List.length_cons, List.length_nil]; omega); (case h2 => simp only [List.size_toArray, List.length_cons, List.length_nil]; omega); (case hd => ktr_room); (case hu => ktr_units)); intro vO oO hO tkO hvO hoO F' N'; (try dsimp only at N'))) | (((with_reducible show wpAny _ _ (subscriptTail _ _ (Value.ref _) (Value.int 1 _)) _ _ _); k_dflt (refine item_at1 (by k_asm) (by lcg_src) ?_))) | (((with_reducible show wpAny _ _ (subscriptTail _ _ (Value.ref _) (Value.int 0 _)) _ _ _); k_dflt (refine item_at0 (by k_asm) (by lcg_src) ?_))) | ((with_reducible show wpAny _ _ (newList _) _ _ _); (k_dflt (refine list_o (by k_asm) (by k_asm) (by size_fits) ?_); intro Dw7 hw7 ow7 Fw7 Nw7 lw7)) | ((with_reducible show wpAny _ _ (newTuple _) _ _ _); (k_dflt (refine tuple_o (by k_asm) (by k_asm) (by size_fits) ?_); intro Dw7 hw7 ow7 Fw7 Nw7 lw7)) | ((with_reducible show wpAny _ _ (eval (PySem.Expr.Subscript _ _ _) _) _ _ _); (k_dflt (refine sub_sv (by rfl) (by first | exact rfl | assumption) (by k_asm) (by rfl) (by rfl) ?_))) | ((with_reducible show wpAny _ _ (PySem.isTrue (PySem.Expr.Compare _ [_] [_] _) _ _) _ _ _); (k_dflt (first | refine isTrue_sv (by rfl) (by first | exact rfl | assumption) (by k_asm) (by rfl) (by rfl) ?_ | refine isTrue_sub (by rfl) (by first | exact rfl | assumption) (by k_asm) (by rfl) (by rfl) ?_); (try dsimp only))) | ((with_reducible show wpAny _ _ (eval (PySem.Expr.Tuple _ _ _) _) _ _ _); (k_dflt (refine tuple_svs (by rfl) (by first | exact rfl | assumption) (by k_asm) (by k_asm) (by rfl) (by size_fits) ?_); intro Dw7 hw7 ow7 Fw7 Nw7 lw7)) | ((with_reducible show wpAny _ _ (callWith _ (Value.ref _) _ _ _) _ _ _); (k_here; k_dflt (first | refine' callWith_K ?k1 ?k2 ?_; (case k1 => k_asm); (case k2 => k_is); k_whole | refine' callWith_K0 ?k1 ?k2 ?_; (case k1 => k_in); (case k2 => k_is); k_whole); (try dsimp only [List.nil_append, List.append_nil]))) | ((with_reducible show wpAny _ _ (execs [] _) _ _ _); ((with_reducible refine Mine.gen_tok ?_); intro tk; (with_reducible refine wpAny_execs_nil ?_); (try dsimp only))) | ((with_reducible show wpAny _ _ (execs (_ :: _) _) _ _ _); ((with_reducible refine Mine.gen_tok ?_); intro tk; (with_reducible refine wpAny_execs_cons ?_); (try dsimp only))) | walk1 | (dsimp only; walk1) | (leave1; walk_say "STEP leave1"; try dsimp only) | fail "no step"))
      · exact ret _ [(TA, tup ([_, _] ++ [Value.int 1 _]).toArray nA)] _ _ _ (by k_asm) (hret _ _ _ _ (by k_asm) (by lcg_src) (by intro p hp; lcg_src) (by intro p hp; rw [List.mem_singleton.mp hp]; lcg_src)) (by with_reducible assumption) (.len (.tail _ a1) (.inl rfl) (.head _)) (fun p hp => (List.mem_singleton.mp hp) ▸ (hlt _ (fr_or (by with_reducible assumption) (by with_reducible assumption) (by intro q hq; rcases List.mem_cons.mp hq with rfl | hq; exact ⟨_, by lcg_src⟩; exact ⟨q.2, by lcg_src⟩) (by intro q hq; rcases List.mem_cons.mp hq with rfl | hq; exact ⟨_, by lcg_src⟩; exact ⟨q.2, by lcg_src⟩))))
      · obtain ⟨i9, e9⟩ := hvO
        rcases i9 with _ | _ | i9
        all_goals (try (simp at e9; done))
        all_goals (simp only [Nat.zero_add, List.getElem?_toArray, List.getElem?_cons_succ, List.getElem?_cons_zero, Option.some.injEq] at e9; subst e9)
        · exact ret _ [(_, tup #[.str (Str.ofString "ref") _, _] _)] _ _ _ (by k_asm) (hret _ _ _ _ (by k_asm) (by lcg_src) (by intro p hp; lcg_src) (by intro p hp; rw [List.mem_singleton.mp hp]; lcg_src)) (by with_reducible assumption) (.boxH (.tail _ a1) (.head _) .ref) (fun p hp => (List.mem_singleton.mp hp) ▸ (hlt _ (allLt_src (by with_reducible assumption) (by lcg_src) (by intro p hp; lcg_src))))
        · exact ret _ [(_, tup #[.int 0 _, _] _)] _ _ _ (by k_asm) (hret _ _ _ _ (by k_asm) (by lcg_src) (by intro p hp; lcg_src) (by intro p hp; rw [List.mem_singleton.mp hp]; lcg_src)) (by with_reducible assumption) (.boxH (.tail _ a1) (.head _) .zero) (fun p hp => (List.mem_singleton.mp hp) ▸ (hlt _ (allLt_src (by with_reducible assumption) (by lcg_src) (by intro p hp; lcg_src))))
    | adt a1 a2 a3 a4 a5 a6 a7 a8 a9 b1 b2 b3 =>
      have a4m := hn' _ a4
      have a5m := hn' _ a5
      have h9 : its.length ≤ 9 := by omega
      have hneS : hd ≠ src := hr _ a4m
      have N10 := news_dup (q := (hd, tup #[.int _ _, .ref _] _)) (by k_asm) (by lcg_src)
      clear hHm hH
      (repeat' (first | (k_unfold; (try dsimp only)) | (k_end; wrow_close) | ((with_reducible show wpAny _ _ (binaryOp Operator.Add (Value.ref _) (Value.ref _)) _ _ _); (k_dflt (refine add_snoc (by k_asm) (by k_asm) (by lcg_src) (by lcg_src) (by first | omega | simp) ?_); intro TA nA h' F' N' horA; (have neA : TA ≠ src := ne_or horA (by with_reducible assumption) (by lcg_src) (by lcg_src)))) | (((with_reducible show wpAny _ _ (call (Value.ref 218) [Value.ref _, Value.ref _]) _ _ _); k_dflt (refine' one_ok ?B ?F ?X ?N ?T ?hk ?U ?ho ?hm ?hne ?h1 ?h2 ?hd ?hu ?_; (case B => k_asm); (case F => k_asm); (case X => k_asm); (case N => k_asm); (case T => k_asm); (case hk => first | exact rfl | assumption); (case U => k_updF); (case ho => assumption); (case hm => lcg_src); (case hne => k_ne); (case h1 => simp only [List.size_toArray, List.length_cons, List.length_nil]; omega); (case h2 => simp only [List.size_toArray, List.length_cons, List.length_nil]; omega); (case hd => ktr_room); (case hu => ktr_units)); intro vO oO hO tkO hvO hoO F' N'; (try dsimp only at N'))) | ((with_reducible show wpAny _ _ (call (Value.type "list") [_]) _ _ _); (k_dflt (refine listT (by k_asm) (by k_asm) (by lcg_src) (by with_reducible assumption) ?_); intro DL cL h' F' N' lL)) | (((with_reducible show wpAny _ _ (subscriptTail _ _ (Value.ref _) (Value.int 0 _)) _ _ _); k_dflt (refine item_at0 (by k_asm) (by lcg_src) ?_))) | ((with_reducible show wpAny _ _ (storeName _ _ _) _ _ _); (k_dflt (refine store_o (by k_asm) (by k_asm) ?_ (by first | exact rfl | assumption) (by rfl)); intro hw7 mw7 Fw7 Nw7)) | ((with_reducible show wpAny _ _ (newList _) _ _ _); (k_dflt (refine list_o (by k_asm) (by k_asm) (by size_fits) ?_); intro Dw7 hw7 ow7 Fw7 Nw7 lw7)) | ((with_reducible show wpAny _ _ (newTuple _) _ _ _); (k_dflt (refine tuple_o (by k_asm) (by k_asm) (by size_fits) ?_); intro Dw7 hw7 ow7 Fw7 Nw7 lw7)) | ((with_reducible show wpAny _ _ (PySem.isTrue (PySem.Expr.Compare _ [_] [_] _) _ _) _ _ _); (k_dflt (first | refine isTrue_sv (by rfl) (by first | exact rfl | assumption) (by k_asm) (by rfl) (by rfl) ?_ | refine isTrue_sub (by rfl) (by first | exact rfl | assumption) (by k_asm) (by rfl) (by rfl) ?_); (try dsimp only))) | ((with_reducible show wpAny _ _ (eval (PySem.Expr.Tuple _ _ _) _) _ _ _); (k_dflt (refine tuple_svs (by rfl) (by first | exact rfl | assumption) (by k_asm) (by k_asm) (by rfl) (by size_fits) ?_); intro Dw7 hw7 ow7 Fw7 Nw7 lw7)) | ((with_reducible show wpAny _ _ (spliced (backTo _ (starEach (_ :: _) _))) _ _ _); (k_dflt (refine spl_g (by rfl) (by first | exact rfl | assumption) (by k_asm) (by rfl) ?_))) | ((with_reducible show wpAny _ _ (callWith _ (Value.ref _) _ _ _) _ _ _); (k_here; k_dflt (first | refine' callWith_K ?k1 ?k2 ?_; (case k1 => k_asm); (case k2 => k_is); k_whole | refine' callWith_K0 ?k1 ?k2 ?_; (case k1 => k_in); (case k2 => k_is); k_whole); (try dsimp only [List.nil_append, List.append_nil]))) | ((with_reducible show wpAny _ _ (execs [] _) _ _ _); ((with_reducible refine Mine.gen_tok ?_); intro tk; (with_reducible refine wpAny_execs_nil ?_); (try dsimp only))) | ((with_reducible show wpAny _ _ (execs (_ :: _) _) _ _ _); ((with_reducible refine Mine.gen_tok ?_); intro tk; (with_reducible refine wpAny_execs_cons ?_); (try dsimp only))) | walk1 | (dsimp only; walk1) | (leave1; walk_say "STEP leave1"; try dsimp only) | fail "no step"))
      · exact ret _ [(TA, tup ([_, _] ++ [Value.int 1 _]).toArray nA)] _ _ _ (by k_asm) (hret _ _ _ _ (by k_asm) (by lcg_src) (by intro p hp; lcg_src) (by intro p hp; rw [List.mem_singleton.mp hp]; lcg_src)) (by with_reducible assumption) (.len (.tail _ a1) (.inr rfl) (.head _)) (fun p hp => (List.mem_singleton.mp hp) ▸ (hlt _ (fr_or (by with_reducible assumption) (by with_reducible assumption) (by intro q hq; rcases List.mem_cons.mp hq with rfl | hq; exact ⟨_, by lcg_src⟩; exact ⟨q.2, by lcg_src⟩) (by intro q hq; rcases List.mem_cons.mp hq with rfl | hq; exact ⟨_, by lcg_src⟩; exact ⟨q.2, by lcg_src⟩))))
      · obtain ⟨i9, e9⟩ := hvO
        rcases i9 with _ | _ | _ | _ | i9
        all_goals (try (simp at e9; done))
        all_goals (simp only [Nat.zero_add, List.getElem?_toArray, List.getElem?_cons_succ, List.getElem?_cons_zero, Option.some.injEq] at e9; subst e9)
        · exact ret _ [(_, tup #[.int 3 _, _] _)] _ _ _ (by k_asm) (hret _ _ _ _ (by k_asm) (by lcg_src) (by intro p hp; lcg_src) (by intro p hp; first | (rw [List.mem_singleton.mp hp]; lcg_src) | (simp only [List.mem_cons, List.not_mem_nil, or_false] at hp; rcases hp with rfl | rfl <;> lcg_src))) (by with_reducible assumption) (.adtB (.tail _ a1) (.tail _ a2) (.tail _ a3) (.head _) (.tup (.tail _ a5) (by omega)) b3 (by omega) (.inl rfl)) (fun p hp => (List.mem_singleton.mp hp) ▸ (hlt _ (allLt_src (by with_reducible assumption) (by lcg_src) (by intro p hp; lcg_src))))
        · exact ret _ [(_, tup #[.int (-1) _, _] _)] _ _ _ (by k_asm) (hret _ _ _ _ (by k_asm) (by lcg_src) (by intro p hp; lcg_src) (by intro p hp; first | (rw [List.mem_singleton.mp hp]; lcg_src) | (simp only [List.mem_cons, List.not_mem_nil, or_false] at hp; rcases hp with rfl | rfl <;> lcg_src))) (by with_reducible assumption) (.adtB (.tail _ a1) (.tail _ a2) (.tail _ a3) (.head _) (.tup (.tail _ a5) (by omega)) b3 (by omega) (.inr (.inl rfl))) (fun p hp => (List.mem_singleton.mp hp) ▸ (hlt _ (allLt_src (by with_reducible assumption) (by lcg_src) (by intro p hp; lcg_src))))
        · exact ret _ [(_, tup #[.int _ _, .ref TA] _), (TA, tup (its ++ [Value.int 1 _]).toArray nA)] _ _ _ (by k_asm) (hret _ _ _ _ (by k_asm) (by lcg_src) (by intro p hp; lcg_src) (by intro p hp; first | (rw [List.mem_singleton.mp hp]; lcg_src) | (simp only [List.mem_cons, List.not_mem_nil, or_false] at hp; rcases hp with rfl | rfl <;> lcg_src))) (by with_reducible assumption) (.adtB (.tail _ (.tail _ a1)) (.tail _ (.tail _ a2)) (.tail _ (.tail _ a3)) (.head _) (.tup (.tail _ (.head _)) (by rw [List.length_append]; simp; omega)) b3 (by omega) (.inr (.inr ⟨rfl, fun its' e => by cases e; rw [List.length_append]; simp; omega⟩))) (lt_cons (hlt _ (allLt_src (by with_reducible assumption) (by lcg_src) (by intro p hp; lcg_src))) (lt_cons (hlt _ (fr_or (by with_reducible assumption) (by with_reducible assumption) (by intro q hq; rcases List.mem_cons.mp hq with rfl | hq; exact ⟨_, by lcg_src⟩; exact ⟨q.2, by lcg_src⟩) (by intro q hq; rcases List.mem_cons.mp hq with rfl | hq; exact ⟨_, by lcg_src⟩; exact ⟨q.2, by lcg_src⟩))) lt_nil))
        · exact ret _ [(_, tup #[.int _ _, .ref DL] _), (DL, listOf its.toArray cL)] _ _ _ (by k_asm) (hret _ _ _ _ (by k_asm) (by lcg_src) (by intro p hp; lcg_src) (by intro p hp; first | (rw [List.mem_singleton.mp hp]; lcg_src) | (simp only [List.mem_cons, List.not_mem_nil, or_false] at hp; rcases hp with rfl | rfl <;> lcg_src))) (by with_reducible assumption) (.adtB (.tail _ (.tail _ a1)) (.tail _ (.tail _ a2)) (.tail _ (.tail _ a3)) (.head _) (.lst (.tail _ (.head _))) b3 (by omega) (.inr (.inr ⟨rfl, fun its' e => by cases e⟩))) (lt_cons (hlt _ (allLt_src (by with_reducible assumption) (by lcg_src) (by intro p hp; lcg_src))) (lt_cons (hlt _ (allLt_src (by with_reducible assumption) (by lcg_src) (by intro p hp; lcg_src))) lt_nil))
end Mine
end
section
namespace Mine
open PySem.Spec PySem.Calls
theorem TyAt.rd {w : World} {n : List (Addr × Obj)} {v : Value} {d : PyData} (h : TyAt n v d) : Rd w n v d := by
  cases h with
  | int a => exact Rd.tuple a rfl rfl (.cons .str (.cons .str .nil))
  | bool a => exact Rd.tuple a rfl rfl (.cons .str .nil)
theorem TysAt.rd {w : World} {n : List (Addr × Obj)} {vs : List Value} {ds : List PyData} (h : TysAt n vs ds) : RdAll w n vs ds := by
  induction h with
  | nil => exact .nil
  | cons a _ ih => exact .cons a.rd ih
theorem VarsAt.at {n : List (Addr × Obj)} {vs : List Value} {dss : List (List PyData)} (h : VarsAt n vs dss) : vs.length = dss.length ∧ ∀ {i : Nat} {ds : List PyData}, dss[i]? = some ds → RowAt n vs.toArray i ds := by
  induction h with
  | nil => exact ⟨rfl, fun e => by simp at e⟩
  | cons a b c _ ih =>
    refine ⟨by simp [ih.1], fun {i ds} e => ?_⟩
    rcases i with _ | i
    · simp at e; subst e; exact .mk rfl a b c
    · obtain ⟨x, y, z, u⟩ := ih.2 (i := i) (by simpa using e)
      exact .mk (by simpa using x) y z u
theorem FldsAt.nil_ok {n : List (Addr × Obj)} : FldsAt n [] [] := .nil
theorem AdtAt.of {prog : Program} {w : World} {n : List (Addr × Obj)} {x d da : Addr} {oA : Obj} {kvsA : List (Str × Value)} {xs : Addr} {nm : Str} {dss : List (List PyData)} {t1 t2 t3 t4 t5 t6 t7 t8 v1 v3 v4 v5 v6 v7 v8} (a : (x, instObj 193 d) ∈ n) (b : (d, dictOf [ent w "modules" t1 v1, ent w "adts" t2 (.ref da), ent w "variants" t3 v3, ent w "sigs" t4 v4, ent w "traits" t5 v5, ent w "impls" t6 v6, ent w "consts" t7 v7, ent w "bodies" t8 v8] 8) ∈ n)
    (c : (da, oA) ∈ n) (e : oA.IsDictOf (strKind prog w) kvsA) (f : valueAt kvsA nm = some (.ref xs)) (g : AdtAt w n (.ref xs) dss) : ∃ vs, AdtOf prog w n x nm vs ∧ vs.size = dss.length ∧ ∀ {i : Nat} {ds : List PyData}, dss[i]? = some ds → RowAt n vs i ds := by
  obtain ⟨g1, g2, g3, g4, g5, g6⟩ := g
  have z := g6.at
  exact ⟨_, .mk a b c e f g1 g2 g3 g4 g5, by rw [← z.1, Array.length_toList], fun e => by simpa using z.2 e⟩
theorem WorldAt.adt {prog : Program} {w : World} {n : List (Addr × Obj)} {x : Addr} {nm : Str} {num : Nat} {ds : List PyData} (h : WorldAt prog w n (.ref x)) (r : NmRow nm num ds) : ∃ vs, AdtOf prog w n x nm vs ∧ vs.size < 4 ∧ num < vs.size ∧ RowAt n vs num ds := by
  obtain ⟨a, b, c, e, -, f, g⟩ := h
  cases r with
  | s =>
    obtain ⟨vs, p, q, r⟩ := AdtAt.of (nm := Str.ofString "S") a b c e (by rfl) f
    exact ⟨vs, p, by rw [q]; decide, by rw [q]; decide, r rfl⟩
  | e hm =>
    obtain ⟨vs, p, q, r⟩ := AdtAt.of (nm := Str.ofString "E") a b c e (by rfl) g
    refine ⟨vs, p, by rw [q]; decide, by rw [q]; show num < 3; omega, r ?_⟩
    rcases num with _ | _ | _ | num
    · rfl
    · rfl
    · rfl
    · omega
theorem NmRow.ds2 {nm : Str} {num : Nat} {ds : List PyData} (r : NmRow nm num ds) : ds.length ≤ 2 := by
  cases r with
  | s => simp
  | e h => rw [List.length_take]; exact Nat.min_le_right _ _
noncomputable def TwoRd (w : World) (tl rst : List (Addr × Obj)) (R : Addr) (vv : Value) (pa ty : Addr) : Prop := ∃ d, Rd w (tl ++ rst) (.ref R) d ∧ PyData.canLay0 d = true ∧ PyData.depth d ≤ 12 ∧ ∀ {n D k}, (D, tup #[vv, .ref pa, .ref ty] k) ∈ n → (∀ p ∈ rst, p ∈ n) → Rd w n (.ref D) d
theorem TysAt.good {n : List (Addr × Obj)} {vs : List Value} {ds : List PyData} (h : TysAt n vs ds) : PyData.canLayAll0 ds = true ∧ PyData.depthAll ds ≤ 2 := by
  induction h with
  | nil => exact ⟨rfl, Nat.zero_le _⟩
  | cons a _ ih =>
    cases a with
    | int _ => exact ⟨by simp only [PyData.canLayAll0, ih.1, Bool.and_true]; decide +kernel, by simp only [PyData.depthAll, intD, PyData.depth]; omega⟩
    | bool _ => exact ⟨by simp only [PyData.canLayAll0, ih.1, Bool.and_true]; decide +kernel, by simp only [PyData.depthAll, boolD, PyData.depth]; omega⟩
theorem told_right {prog : Program} {w : World} {p : Program} {loose : List Str} {mean : ExcName → Option Value} {mg mb : Str → Option Value} {gd : Option (List Code)} {cn : Str} {cs : Scope} {a : Addr} {ccd : Value} {cl : List (Str × Addr)} {outer : List Env} {A₀ : Around} {base h₀ : Heap} {L : Addr} {m : Str → Option Value} {s : Shared} {Q E : Value → Shared → Prop}
    (B : Below A₀ base outer h₀) (F : Fr h₀ L s.heap m) (X : (Mine.kmk.heap_1 w.params).In h₀) {rst : List (Addr × Obj)} {ps : Array Value} (N : News h₀ L s.heap ((94, tabObj ps) :: rst)) (T : Top p loose mean mg mb h₀) (hk : cs.kind = .function) (hr : ∀ p ∈ rst, p.1 ≠ 94) {nT : List (Addr × Obj)} (hTab : TabOk 58 4 ((Str.ofString "fields_of" ++ Str.ofString ".<locals>.") ++ Str.ofString "put_in") ps nT) (hCd : CodeHd base 96 94)
    (hg : s.gens = #[]) (hb : base.get? 0 = some (bnObj w.params)) (XB : (Mine.kmk.heap_1 w.params).In base)
    {t hd pa ty wx : Addr} {vv : Value} {h : Str} {its : List Value} {ds : List PyData} {sh : Shp} (H : HS w rst t hd vv pa ty h its ds sh) (hW : WorldAt prog w rst (.ref wx))
    (ret : ∀ R ps' tl h' tk', Fr h₀ L h' m → News h₀ L h' ((94, tabObj ps') :: (tl ++ rst)) → TabOk 58 4 ((Str.ofString "fields_of" ++ Str.ofString ".<locals>.") ++ Str.ofString "put_in") ps' (tl ++ nT) → (h = Str.ofString "adt" → TabFull 58 4 ps') → (∀ p ∈ tl, AllNe p.1 ((94, tabObj ps) :: rst)) → TwoRd w tl rst R vv pa ty → Q (.ref R) { s with heap := h', toks := tk' }) :
    wpAny (model prog w) (ktrTop 305 16 gd cn cs L a ccd cl outer) (call (.ref 138) [.ref hd, .ref t, .ref wx]) Q E s := by
  have two : ∀ {h' : Heap} {x y : Addr × Obj}, News h₀ L h' (x :: y :: (94, tabObj ps) :: rst) → News h₀ L h' ((94, tabObj ps) :: ([x, y] ++ rst)) := fun N' => news_sub N' fun p hp => by
    simp only [List.mem_cons, List.mem_append, List.not_mem_nil, or_false] at hp ⊢
    rcases hp with hp | (hp | hp) | hp <;> simp only [hp, true_or, or_true]
  have three : ∀ {h' : Heap} {x y z : Addr × Obj}, News h₀ L h' (x :: y :: z :: (94, tabObj ps) :: rst) → News h₀ L h' ((94, tabObj ps) :: ([x, y, z] ++ rst)) := fun N' => news_sub N' fun p hp => by
    simp only [List.mem_cons, List.mem_append, List.not_mem_nil, or_false] at hp ⊢
    rcases hp with hp | (hp | hp | hp) | hp <;> simp only [hp, true_or, or_true]
  have ne3 : ∀ {x y z : Addr × Obj}, AllLt x.1 ((94, tabObj ps) :: rst) → AllLt y.1 ((94, tabObj ps) :: rst) → AllLt z.1 ((94, tabObj ps) :: rst) → ∀ p ∈ [x, y, z], AllNe p.1 ((94, tabObj ps) :: rst) := fun l1 l2 l3 p hp => by
    simp only [List.mem_cons, List.not_mem_nil, or_false] at hp
    rcases hp with rfl | rfl | rfl
    · exact allNe_lt l1 fun q hq => ⟨_, hq⟩
    · exact allNe_lt l2 fun q hq => ⟨_, hq⟩
    · exact allNe_lt l3 fun q hq => ⟨_, hq⟩
  have up : ∀ {x y : Addr × Obj}, ∀ p ∈ rst, p ∈ [x, y] ++ rst := fun p hp => List.mem_append_right _ hp
  have ne2 : ∀ {x y : Addr × Obj}, AllLt x.1 ((94, tabObj ps) :: rst) → AllLt y.1 ((94, tabObj ps) :: rst) → ∀ p ∈ [x, y], AllNe p.1 ((94, tabObj ps) :: rst) := fun l1 l2 p hp => by
    simp only [List.mem_cons, List.not_mem_nil, or_false] at hp
    rcases hp with rfl | rfl
    · exact allNe_lt l1 fun q hq => ⟨_, hq⟩
    · exact allNe_lt l2 fun q hq => ⟨_, hq⟩
  have key : ∀ {dv : PyData} {zs tys : List Value} {c kT k3 c2 : Nat} {k9 : Nat} {v2 : Value} {p2 l T : Addr} {tl : List (Addr × Obj)}, (∀ n, Rd w n vv dv) → (∀ n, Rd w n v2 dv) → PyData.canLay0 dv = true → PyData.depth dv = 0 → RGs w rst its → (pa, tup its.toArray k3) ∈ rst → (p2, tup its.toArray kT) ∈ tl ++ rst → (ty, listOf tys.toArray c) ∈ rst → TysAt rst tys ds → (l, listOf zs.toArray c2) ∈ tl ++ rst → TysAt (tl ++ rst) zs ds → (T, tup #[v2, .ref p2, .ref l] k9) ∈ tl ++ rst → TwoRd w tl rst T vv pa ty   := fun hvv hv2 hc hd hg hpa hp2 hty ht hl hz hT => by
    obtain ⟨di, r1, c1, d1⟩ := RGs.all hg
    have g1 := ht.good
    refine ⟨.tuple [_, .tuple di, .list ds], Rd.tuple hT rfl rfl (.cons (hv2 _) (.cons (Rd.tuple hp2 rfl rfl (r1.mono fun p hp => List.mem_append_right _ hp)) (.cons (Rd.list hl rfl rfl hz.rd) .nil))), ?_, ?_, fun hD hn => Rd.tuple hD rfl rfl (.cons (hvv _) (.cons (Rd.tuple (hn _ hpa) rfl rfl (r1.mono hn)) (.cons (Rd.list (hn _ hty) rfl rfl (ht.rd.mono hn)) .nil)))⟩
    · simp only [PyData.canLay0, PyData.canLayAll0, hc, c1, g1.1, Bool.and_true]
    · simp only [PyData.depth, PyData.depthAll, hd]
      omega
  cases H with
  | tu a1 a2 a3 a4 a5 a6 a7 a8 a9 b1 =>
    have e3 := a3.len
    exact told_tup (dp := 0) (un := 0) B F X N T hk hg hb XB (.tail _ a1) (.tail _ a2) (.tail _ a4) (by omega) (by omega)
      (fun _ T l c kT h' tk' F' N' l1 l2 => ret T ps [_, _] h' tk' F' (two N') (hTab.mono fun p hp => List.mem_append_right _ hp) (fun e => absurd e (by decide)) (ne2 l1 l2) (key (fun _ => Rd.none) (fun _ => Rd.none) rfl rfl b1 a5 (up _ a4) a6 a7 (.tail _ (.head _)) (a3.mono up) (.head _)))
      (fun z => absurd (by omega) z)
  | arr a1 a2 a3 a4 a5 a6 a7 a8 a9 =>
    exact told_arr (dp := 0) (un := 0) B F X N T hk hg hb XB (.tail _ a1) (.tail _ a3) (by omega) (by omega)
      (fun _ T l c kT h' tk' F' N' l1 l2 => ret T ps [_, _] h' tk' F' (two N') (hTab.mono fun p hp => List.mem_append_right _ hp) (fun e => absurd e (by decide)) (ne2 l1 l2) (key (fun _ => Rd.none) (fun _ => Rd.none) rfl rfl a9 a4 (up _ a3) a5 a6 (.tail _ (.head _)) ((TysAt.rep a2 _).mono up) (.head _)))
      (fun z => absurd a7 z)
  | box a1 a2 a3 a4 a5 a6 a7 =>
    exact told_box (dp := 0) (un := 0) B F X N T hk hg hb XB (.tail _ a1) (.tail _ a3) .box
      (fun _ T q l kq c kT h' tk' F' N' l1 l2 l3 => ret T ps [_, _, _] h' tk' F' (three N') (hTab.mono fun p hp => List.mem_append_right _ hp) (fun e => absurd e (by decide)) (ne3 l1 l2 l3)
        (key (fun _ => Rd.none) (fun _ => Rd.none) rfl rfl (.cons a7 .nil) a4 (.tail _ (.head _)) a5 (.cons a6 .nil) (.tail _ (.tail _ (.head _))) (.cons (a2.mono fun p hp => List.mem_append_right _ hp) .nil) (.head _)))
      (fun z => absurd z (by decide))
  | adt a1 a2 a3 a4 a5 a6 a7 a8 a9 b1 b2 b3 =>
    obtain ⟨vs, q1, q2, q3, q4⟩ := hW.adt b3
    have hok : ∀ num : Nat, num < vs.size → (0 ≤ (num : Int) ∧ (num : Int) < vs.size) ∧ ∃ its', some its = some its' ∧ its'.length = ds.length := fun num h => ⟨⟨Int.natCast_nonneg _, by omega⟩, its, rfl, a9⟩
    exact told_adt B F X N T hk hr hTab hCd hg hb XB a1 a2 a3 a4 (.tup a5 (by omega)) q1 q2 (fun _ _ => by simpa using q4) (by have := b3.ds2; omega)
      (fun z => absurd (hok _ q3) z)
      (fun _ T l zs kT ps' tl h' tk' F' N' m1 m2 t1 t2 t3 ne => ret T ps' tl h' tk' F' N' t2 (fun _ => t3) ne (key (fun _ => Rd.int) (fun _ => Rd.int) rfl rfl b2 a6 (List.mem_append_right _ a5) a7 a8 (List.mem_append_left _ m2) t1 (List.mem_append_left _ m1)))
      (fun z => absurd (hok _ q3) z)
theorem told_bent {prog : Program} {w : World} {p : Program} {loose : List Str} {mean : ExcName → Option Value} {mg mb : Str → Option Value} {gd : Option (List Code)} {cn : Str} {cs : Scope} {a : Addr} {ccd : Value} {cl : List (Str × Addr)} {outer : List Env} {A₀ : Around} {base h₀ : Heap} {L : Addr} {m : Str → Option Value} {s : Shared} {Q E : Value → Shared → Prop}
    (B : Below A₀ base outer h₀) (F : Fr h₀ L s.heap m) (X : (Mine.kmk.heap_1 w.params).In h₀) {rst : List (Addr × Obj)} {ps : Array Value} (N : News h₀ L s.heap ((94, tabObj ps) :: rst)) (T : Top p loose mean mg mb h₀) (hk : cs.kind = .function) (hr : ∀ p ∈ rst, p.1 ≠ 94) {nT : List (Addr × Obj)} (hTab : TabOk 58 4 ((Str.ofString "fields_of" ++ Str.ofString ".<locals>.") ++ Str.ofString "put_in") ps nT) (hCd : CodeHd base 96 94)
    (hg : s.gens = #[]) (hb : base.get? 0 = some (bnObj w.params)) (XB : (Mine.kmk.heap_1 w.params).In base)
    {t wx : Addr} {v : Value} (hB : Bent rst t v) (hW : WorldAt prog w rst (.ref wx)) (hfull : ∀ u r k, (t, tup (List.toArray (Value.str (Str.ofString "adt") u :: r)) k) ∈ rst → TabFull 58 4 ps)
    (bad : ∀ e dd od tk G h' tk', RsS base G (envX cn cs L a ccd cl :: outer) e (.ref 59) dd ((dd, od) :: (94, tabObj ps) :: rst) h' → G.UpToSlots h' → lookIn "kind" od = some (some (.str "kind" tk)) → Fr h₀ L G m → E (.ref e) { s with heap := h', toks := tk' }) :
    wpAny (model prog w) (ktrTop 305 16 gd cn cs L a ccd cl outer) (call (.ref 138) [v, .ref t, .ref wx]) Q E s := by
  cases hB with
  | not a1 => exact told_not (dp := 0) (un := 0) B F X N T hk hg hb XB (a1.mono fun p hp => .tail _ hp) bad
  | tupL a1 a2 a3 a4 a5 a6 => exact told_tup (dp := 0) (un := 0) B F X N T hk hg hb XB (.tail _ a1) (.tail _ a2) (.tail _ a3) a4 a5 (fun z => absurd z a6) fun _ => bad
  | arrL a1 a2 a3 a4 a5 => exact told_arr (dp := 0) (un := 0) B F X N T hk hg hb XB (.tail _ a1) (.tail _ a2) a3 a4 (fun z => absurd z a5) fun _ => bad
  | len a1 a2 a3 => exact told_len (dp := 0) (un := 0) B F X N T hk hg hb XB (.tail _ a1) (.tail _ a3) a2 bad
  | boxH a1 a2 a3 => exact told_box (dp := 0) (un := 0) B F X N T hk hg hb XB (.tail _ a1) (.tail _ a2) a3 (fun z => absurd z (by decide)) fun _ => bad
  | @adtB _ _ _ _ i _ o num ds _ _ _ _ _ _ _ a1 a2 a3 a4 a5 a6 a7 a8 =>
    obtain ⟨vs, q1, q2, q3, q4⟩ := hW.adt a6
    have hno : ¬ ((0 ≤ i ∧ i < vs.size) ∧ ∃ its', o = some its' ∧ its'.length = ds.length) := fun ⟨h1, its', h2, h3⟩ => by
      rcases a8 with rfl | rfl | ⟨rfl, h4⟩
      · omega
      · omega
      · exact h4 _ h2 h3
    refine told_adt B F X N T hk hr hTab hCd hg hb XB a1 a2 a3 a4 a5 q1 q2 (fun h1 h2 => ?_) (by omega) (fun _ => hfull _ _ _ a1) (fun z => absurd z hno) fun _ => bad
    rcases a8 with rfl | rfl | ⟨rfl, h4⟩
    · omega
    · omega
    · simpa using q4
end Mine
end
section
namespace Mine
open PySem.Spec PySem.Calls
theorem ints_at {us : List Value} {n i : Nat} {v : Value} (h : IntsAre us (rangeKs 0 n)) (e : us[i]? = some v) : i < n ∧ ∃ t, v = .int (i : Int) t := by
  have hl : us.length = n := by rw [h.length, rangeKs_length]
  have hi : i < n := by rw [← hl]; exact (List.getElem?_eq_some_iff.mp e).1
  obtain ⟨t, q⟩ := kri_get (g := fun x => x) (i := (i : Int)) (by rw [List.map_id']; exact h) (Int.natCast_nonneg _) (by omega)
  rw [Int.toNat_natCast, e] at q
  cases q
  exact ⟨hi, t, by rw [Int.zero_add]⟩
section
variable {prog : Program} {w : World} {A : Around} {E : Value → Shared → Prop} {s : Shared} {h₀ : Heap} {L : Addr} {m : Str → Option Value} {news : List (Addr × Obj)}
theorem readsAll_app {g : Heap} {vs' : List Value} {ds' : List PyData} {bs : List Addr} (r' : ReadsAll g vs' ds' bs) (vs : List Value) {ds : List PyData} {as : List Addr} (h : ReadsAll g vs ds as) : ∃ cs, ReadsAll g (vs ++ vs') (ds ++ ds') cs := by
  induction vs generalizing ds as with
  | nil => cases h; exact ⟨_, r'⟩
  | cons v vs ih => cases h with
    | cons a r => obtain ⟨_, z⟩ := ih r; exact ⟨_, .cons a z⟩
theorem RdAll.app {w : World} {n : List (Addr × Obj)} {vs vs' : List Value} {ds ds' : List PyData} (h : RdAll w n vs ds) (h' : RdAll w n vs' ds') : RdAll w n (vs ++ vs') (ds ++ ds') := fun g X k => by
  obtain ⟨as, r⟩ := h g X k
  obtain ⟨bs, r'⟩ := h' g X k
  exact readsAll_app r' vs r
theorem canAll_app : ∀ (a b : List PyData), PyData.canLayAll0 (a ++ b) = (PyData.canLayAll0 a && PyData.canLayAll0 b)
  | [], b => by simp [PyData.canLayAll0]
  | x :: a, b => by simp only [List.cons_append, PyData.canLayAll0, canAll_app a b, Bool.and_assoc]
theorem depthAll_app : ∀ (a b : List PyData), PyData.depthAll (a ++ b) = max (PyData.depthAll a) (PyData.depthAll b)
  | [], b => by simp [PyData.depthAll]
  | x :: a, b => by simp only [List.cons_append, PyData.depthAll, depthAll_app a b, Nat.max_assoc]
theorem ne_its {x y : Addr} {its : List Value} {k k' : Nat} {n : List (Addr × Obj)} {Q : Value → Shared → Prop} (F : Fr h₀ L s.heap m) (N : News h₀ L s.heap news) (X : (Mine.kmk.heap_1 w.params).In h₀) (h1 : (x, tup its.toArray k) ∈ news) (h2 : (y, tup its.toArray k') ∈ news) (hg : RGs w n its) (hs : ∀ p ∈ n, p ∈ news) (hu : A.units + 64 < cLine) (hq : Q (.bool false) s) : wpAny (model prog w) A (compareOp .NotEq (.ref x) (.ref y)) Q E s := by
  obtain ⟨ds, r, c, d⟩ := RGs.all hg
  exact ne_sh F N X (d := .tuple ds) (Rd.tuple h1 rfl rfl (r.mono hs)) (Rd.tuple h2 rfl rfl (r.mono hs)) (by simp only [PyData.canLay0, c]) (by simp only [PyData.depth]; omega) hu hq
theorem two_lists {x y : Addr} {ys : List Value} {v v' : Value} {k k' : Nat} {n : List (Addr × Obj)} {dv : PyData} (h1 : (x, listOf (ys ++ [v]).toArray k) ∈ news) (h2 : (y, listOf (ys ++ [v']).toArray k') ∈ news) (hg : RGs w n ys) (hs : ∀ p ∈ n, p ∈ news) (r1 : Rd w news v dv) (r2 : Rd w news v' dv) (c1 : PyData.canLay0 dv = true) (d1 : PyData.depth dv ≤ 10) :
    ∃ d, Rd w news (.ref x) d ∧ Rd w news (.ref y) d ∧ PyData.canLay0 d = true ∧ PyData.depth d ≤ 12 := by
  obtain ⟨ds, r, c, d⟩ := RGs.all hg
  have rr := r.mono hs
  refine ⟨.list (ds ++ [dv]), Rd.list h1 rfl rfl (rr.app (.cons r1 .nil)), Rd.list h2 rfl rfl (rr.app (.cons r2 .nil)), ?_, ?_⟩
  · simp only [PyData.canLay0, canAll_app, c, PyData.canLayAll0, c1, Bool.and_true]
  · simp only [PyData.depth, depthAll_app, PyData.depthAll]
    omega
theorem ne_lists {x y : Addr} {ys : List Value} {v v' : Value} {k k' : Nat} {n : List (Addr × Obj)} {dv : PyData} {Q : Value → Shared → Prop} (F : Fr h₀ L s.heap m) (N : News h₀ L s.heap news) (X : (Mine.kmk.heap_1 w.params).In h₀) (h1 : (x, listOf (ys ++ [v]).toArray k) ∈ news) (h2 : (y, listOf (ys ++ [v']).toArray k') ∈ news) (hg : RGs w n ys) (hs : ∀ p ∈ n, p ∈ news) (r1 : Rd w news v dv) (r2 : Rd w news v' dv) (c1 : PyData.canLay0 dv = true) (d1 : PyData.depth dv ≤ 10) (hu : A.units + 64 < cLine) (hq : Q (.bool false) s) : wpAny (model prog w) A (compareOp .NotEq (.ref x) (.ref y)) Q E s := by
  obtain ⟨d, a, b, c, e⟩ := two_lists h1 h2 hg hs r1 r2 c1 d1
  exact ne_sh F N X a b c e hu hq
theorem eq_lists {x y : Addr} {ys : List Value} {v v' : Value} {k k' : Nat} {n : List (Addr × Obj)} {dv : PyData} {Q : Value → Shared → Prop} (F : Fr h₀ L s.heap m) (N : News h₀ L s.heap news) (X : (Mine.kmk.heap_1 w.params).In h₀) (h1 : (x, listOf (ys ++ [v]).toArray k) ∈ news) (h2 : (y, listOf (ys ++ [v']).toArray k') ∈ news) (hg : RGs w n ys) (hs : ∀ p ∈ n, p ∈ news) (r1 : Rd w news v dv) (r2 : Rd w news v' dv) (c1 : PyData.canLay0 dv = true) (d1 : PyData.depth dv ≤ 10) (hu : A.units + 64 < cLine) (hq : Q (.bool true) s) : wpAny (model prog w) A (compareOp .Eq (.ref x) (.ref y)) Q E s := by
  obtain ⟨d, a, b, c, e⟩ := two_lists h1 h2 hg hs r1 r2 c1 d1
  have X' := X.keeps F.keep
  obtain ⟨_, a1⟩ := a _ X' fun p hp => (N p hp).1
  obtain ⟨_, a2⟩ := b _ X' fun p hp => (N p hp).1
  exact eq_dataH a1 a2 (shaped_of c e) (shaped_of c e) hu (by rw [PySem.SeqAt.eqv_refl _ c]; exact hq)
end
end Mine
end
section
namespace Mine
open PySem.Spec PySem.Calls PyProof.Rows.LCg
theorem HS.mono {w : World} {n n' : List (Addr × Obj)} {t hd vv pa ty h its ds sh} (H : HS w n t hd vv pa ty h its ds sh) (s : ∀ p ∈ n, p ∈ n') : HS w n' t hd vv pa ty h its ds sh := by
  cases H with
  | tu a b c d e f g i j l => exact .tu (s _ a) (s _ b) (c.mono s) (s _ d) (s _ e) (s _ f) (g.mono s) i j (l.mono s)
  | arr a b c d e f g i j => exact .arr (s _ a) (b.mono s) (s _ c) (s _ d) (s _ e) (f.mono s) g i (j.mono s)
  | box a b c d e f g => exact .box (s _ a) (b.mono s) (s _ c) (s _ d) (s _ e) (f.mono s) (g.mono s)
  | adt a b c d e f g i j l q r => exact .adt (s _ a) (s _ b) (s _ c) (s _ d) (s _ e) (s _ f) (s _ g) (i.mono s) j l (q.mono s) r
theorem VarsAt.mono {n n' : List (Addr × Obj)} {vs : List Value} {dss : List (List PyData)} (h : VarsAt n vs dss) (s : ∀ p ∈ n, p ∈ n') : VarsAt n' vs dss := by
  induction h with
  | nil => exact .nil
  | cons a b c _ ih => exact .cons (s _ a) (s _ b) (c.mono s) ih
theorem AdtAt.mono {w : World} {n n' : List (Addr × Obj)} {v : Value} {dss : List (List PyData)} (h : AdtAt w n v dss) (s : ∀ p ∈ n, p ∈ n') : AdtAt w n' v dss := by
  cases h with
  | mk a b c d e f => exact .mk (s _ a) (s _ b) (s _ c) (s _ d) (s _ e) (f.mono s)
theorem WorldAt.mono {prog : Program} {w : World} {n n' : List (Addr × Obj)} {v : Value} (h : WorldAt prog w n v) (s : ∀ p ∈ n, p ∈ n') : WorldAt prog w n' v := by
  cases h with
  | mk a b c d e f g => exact .mk (s _ a) (s _ b) (s _ c) d e (f.mono s) (g.mono s)
theorem tl_neN {tl l : List (Addr × Obj)} {b : Addr} {o : Obj} (h : ∀ p ∈ tl, AllNe p.1 l) (hm : (b, o) ∈ l) : ∀ p ∈ tl, p.1 ≠ b := fun p hp => Ne.symm (allNe_get (h p hp) _ hm)
theorem pullK {h₀ h : Heap} {L : Addr} {l : List (Addr × Obj)} {q : Addr × Obj} (k : Nat) (N : News h₀ L h l) (e : l[k]? = some q) : News h₀ L h (q :: l.eraseIdx k) := fun p hp => N p (by
  rcases List.mem_cons.mp hp with rfl | hp
  · exact List.mem_of_getElem? e
  · exact List.mem_of_mem_eraseIdx hp)
theorem ne_two {prog : Program} {w : World} {A : Around} {E : Value → Shared → Prop} {s : Shared} {h₀ : Heap} {L : Addr} {m : Str → Option Value} {news : List (Addr × Obj)} {x y : Addr} {n n' : Nat} {t u t' u' : Tok} {a k : Str} {Q : Value → Shared → Prop} (F : Fr h₀ L s.heap m) (N : News h₀ L s.heap news) (X : (Mine.kmk.heap_1 w.params).In h₀) (h1 : (x, tup #[.str a t, .str k u] n) ∈ news) (h2 : (y, tup #[.str a t', .str k u'] n') ∈ news)
    (ha : PyData.canLay0 (.tuple [.str a, .str k]) = true) (hu : A.units + 64 < cLine) (hq : Q (.bool false) s) : wpAny (model prog w) A (compareOp .NotEq (.ref x) (.ref y)) Q E s :=
  ne_sh F N X (Rd.tuple h1 rfl rfl (.cons .str (.cons .str .nil))) (Rd.tuple h2 rfl rfl (.cons .str (.cons .str .nil))) ha (by simp only [PyData.depth, PyData.depthAll]; omega) hu hq
theorem news_comm {h₀ h : Heap} {L : Addr} {q : Addr × Obj} {tl l : List (Addr × Obj)} (N : News h₀ L h (q :: (tl ++ l))) : News h₀ L h (q :: (l ++ tl)) := fun p hp => N p (by
  simp only [List.mem_cons, List.mem_append] at hp ⊢
  rcases hp with hp | hp | hp <;> simp only [hp, true_or, or_true])
theorem Bent.mono {n n' : List (Addr × Obj)} {t : Addr} {v : Value} (h : Bent n t v) (s : ∀ p ∈ n, p ∈ n') : Bent n' t v := by
  cases h with
  | not a => exact .not (a.mono s)
  | tupL a b c d e f => exact .tupL (s _ a) (s _ b) (s _ c) d e f
  | arrL a b c d e => exact .arrL (s _ a) (s _ b) c d e
  | len a b c => exact .len (s _ a) b (s _ c)
  | boxH a b c => exact .boxH (s _ a) (s _ b) c
  | adtB a b c d e f g i => exact .adtB (s _ a) (s _ b) (s _ c) (s _ d) (e.mono s) f g i
theorem same_hd {h₀ h : Heap} {L : Addr} {l : List (Addr × Obj)} {t : Addr} {a c : Str} {u u' : Tok} {r r' : List Value} {k k' : Nat} (N : News h₀ L h l) (m1 : (t, tup (List.toArray (Value.str a u :: r)) k) ∈ l) (m2 : (t, tup (List.toArray (Value.str c u' :: r')) k') ∈ l) : a = c := by
  have x := (N _ m1).1
  have y := (N _ m2).1
  dsimp only at x y
  rw [x] at y
  have z := congrArg (fun o : Option Obj => match o with | some ⟨_, _, .seq xs _, _⟩ => xs[0]? | _ => none) y
  simp at z
  exact z.1
theorem ne_tab {c x : Addr} {oc ox : Obj} {tlA rst l : List (Addr × Obj)} (hm : (c, oc) ∈ tlA ++ rst) (h1 : ∀ p ∈ rst, p.1 ≠ x) (h2 : (x, ox) ∈ l) (h3 : ∀ p ∈ tlA, AllLt p.1 l) : c ≠ x := (List.mem_append.mp hm).elim (fun h => Nat.ne_of_gt (allLt_mem (h3 _ h) h2)) fun h => h1 _ h
theorem HS.len {w n t hd vv pa ty h its ds sh} (H : HS w n t hd vv pa ty h its ds sh) : its.length ≤ 2 := by
  cases H with
  | tu a b c d e f g i j l => exact j
  | arr a b c d e f g i j => omega
  | box a b c d e f g => simp
  | adt a b c d e f g i j l q r => exact l
theorem HS.put {w n t hd vv pa ty h its ds sh} (H : HS w n t hd vv pa ty h its ds sh) : PutSh h vv its sh ∧ Shp.ok w n sh ∧ ∃ k, (pa, tup (List.toArray its) k) ∈ n := by
  cases H with
  | tu a b c d e f g i j l => exact ⟨.oth ⟨by decide +kernel, by decide +kernel, by decide +kernel⟩, ⟨by omega, l⟩, _, e⟩
  | arr a b c d e f g i j => exact ⟨.oth ⟨by decide +kernel, by decide +kernel, by decide +kernel⟩, ⟨by omega, j⟩, _, d⟩
  | box a b c d e f g => exact ⟨.box, g, _, d⟩
  | adt a b c d e f g i j l q r => exact ⟨.adt, ⟨by omega, q⟩, _, f⟩
theorem ne_tabL {x : Addr} {ox : Obj} {tlA rst l : List (Addr × Obj)} (h3 : ∀ p ∈ tlA, AllLt p.1 l) (h2 : (x, ox) ∈ l) (h1 : ∀ p ∈ rst, p.1 ≠ x) : ∀ p ∈ tlA ++ rst, p.1 ≠ x := fun p hp => (List.mem_append.mp hp).elim (fun h => Nat.ne_of_gt (allLt_mem (h3 _ h) h2)) (h1 p)
theorem napp3 {h₀ h : Heap} {L : Addr} {a b c : Addr × Obj} {r : List (Addr × Obj)} (N : News h₀ L h (a :: b :: c :: r)) : News h₀ L h (a :: b :: c :: (r ++ [])) := by rwa [List.append_nil]
theorem news_dr {h₀ h : Heap} {L : Addr} {a b : Addr × Obj} {l : List (Addr × Obj)} (N : News h₀ L h (a :: b :: l)) : News h₀ L h (a :: l) := fun p hp => N p (by
  rcases List.mem_cons.mp hp with rfl | hp
  · exact .head _
  · exact .tail _ (.tail _ hp))
theorem add_any {prog : Program} {w : World} {A : Around} {E : Value → Shared → Prop} {s : Shared} {h₀ : Heap} {L : Addr} {m : Str → Option Value} {news : List (Addr × Obj)} {l b : Addr} {xs ys : List Value} {n1 n2 : Nat} {Q : Value → Shared → Prop} (F : Fr h₀ L s.heap m) (N : News h₀ L s.heap news) (h1 : (l, tup xs.toArray n1) ∈ news) (h2 : (b, tup ys.toArray n2) ∈ news) (hz : xs.length + ys.length ≤ 9)
    (h : ∀ T n h', Fr h₀ L h' m → News h₀ L h' ((T, tup (xs ++ ys).toArray n) :: news) → Q (.ref T) { s with heap := h' }) : wpAny (model prog w) A (binaryOp .Add (.ref l) (.ref b)) Q E s := by
  refine add_tups F N h1 h2 (by simp only [List.size_toArray]; omega) fun T n h' tl F' N' hm _ ho => h T n h' F' fun p hp => ?_
  have e : xs.toArray ++ ys.toArray = (xs ++ ys).toArray := by simp
  rw [e] at hm
  rcases List.mem_cons.mp hp with rfl | hp
  · exact N' _ hm
  · exact N' p (List.mem_append_right _ hp)
theorem cd94 {w : World} {h : Heap} (X : (Mine.kmk.heap_1 w.params).In h) : CodeHd h 96 94 := codeHd_of_K X (by rfl)
section
variable {h₀ h : Heap} {L : Addr} {a0 a1 a2 a3 a4 a5 a6 a7 q : Addr × Obj} {l tl : List (Addr × Obj)}
theorem pull8 (N : News h₀ L h (a0 :: a1 :: a2 :: a3 :: a4 :: a5 :: a6 :: a7 :: q :: l)) : News h₀ L h (q :: (a0 :: a1 :: a2 :: a3 :: a4 :: a5 :: a6 :: a7 :: l)) := fun p hp => N p (by
  simp only [List.mem_cons] at hp ⊢
  rcases hp with hp | hp | hp | hp | hp | hp | hp | hp | hp | hp <;> simp only [hp, true_or, or_true])
theorem push8 (N : News h₀ L h (q :: (tl ++ (a0 :: a1 :: a2 :: a3 :: a4 :: a5 :: a6 :: a7 :: l)))) : News h₀ L h (a0 :: a1 :: a2 :: a3 :: a4 :: a5 :: a6 :: a7 :: q :: (tl ++ l)) := fun p hp => N p (by
  simp only [List.mem_cons, List.mem_append] at hp ⊢
  rcases hp with hp | hp | hp | hp | hp | hp | hp | hp | hp | hp | hp <;> simp only [hp, true_or, or_true])
end
theorem HS.rgs {w n t hd vv pa ty h its ds sh} (H : HS w n t hd vv pa ty h its ds sh) : RGs w n its := by
  cases H with
  | tu a b c d e f g i j l => exact l
  | arr a b c d e f g i j => exact j
  | box a b c d e f g => exact .cons g .nil
  | adt a b c d e f g i j l q r => exact q
noncomputable def StepsOk (sts its : List Value) (sh : Shp) : Prop := sts.length = its.length ∧ ∀ (i : Nat) (v : Value), sts[i]? = some v → ∃ k x, StepOk v k ∧ valueAt sh.kvs k = some x ∧ its[i]? = some x
theorem StepsOk.box {x : Value} {t : Tok} : StepsOk [.str (Str.ofString "*") t] [x] (.box x) := by
  refine ⟨rfl, fun i v e => ?_⟩
  rcases i with _ | i
  · cases e
    exact ⟨.inr (Str.ofString "*"), x, .inr ⟨_, rfl, rfl⟩, by simp [Shp.kvs, valueAt], rfl⟩
  · simp at e
theorem StepsOk.idx {us its : List Value} {sh : Shp} (hI : IntsAre us (rangeKs 0 its.length)) (e : sh.kvs = idxL 0 its) : StepsOk us its sh := by
  refine ⟨by rw [hI.length, rangeKs_length], fun i v h => ?_⟩
  obtain ⟨hi, t, rfl⟩ := ints_at hI h
  exact ⟨.inl (i : Int), its[i], .inl ⟨_, _, rfl, rfl⟩, by rw [e, idx_of]; exact List.getElem?_eq_getElem hi, List.getElem?_eq_getElem hi⟩
noncomputable def MadeR (s : Shared) (h₀ : Heap) (L : Addr) (m : Str → Option Value) (n : List (Addr × Obj)) (sh : Shp) (f : Flow) (s' : Shared) : Prop :=
  f = .next ∧ ∃ D h' tk' tl, s' = { s with heap := h', toks := tk' } ∧ Fr h₀ L h' (fun y => if y = Str.ofString "made" then some (.ref D) else m y) ∧ News h₀ L h' (tl ++ n) ∧ VS (tl ++ n) (.ref D) sh ∧ ∀ p ∈ tl, AllLt p.1 n
noncomputable def StepsR (s : Shared) (h₀ : Heap) (L : Addr) (m : Str → Option Value) (n : List (Addr × Obj)) (its : List Value) (sh : Shp) (v : Value) (s' : Shared) : Prop :=
  ∃ D h' tk' sts c, v = .ref D ∧ s' = { s with heap := h', toks := tk' } ∧ Fr h₀ L h' m ∧ News h₀ L h' ((D, listOf sts.toArray c) :: n) ∧ AllLt D n ∧ StepsOk sts its sh
theorem made_cut {M : Model} {A : Around} {t : Sem Flow} {Q : Flow → Shared → Prop} {E : Value → Shared → Prop} {s : Shared} {h₀ : Heap} {L : Addr} {m : Str → Option Value} {n : List (Addr × Obj)} {sh : Shp} (_ : Fr h₀ L s.heap m) (_ : News h₀ L s.heap n) (h : wpAny M A t (MadeR s h₀ L m n sh) E s)
    (k : ∀ D h' tk' tl, Fr h₀ L h' (fun y => if y = Str.ofString "made" then some (.ref D) else m y) → News h₀ L h' (tl ++ n) → VS (tl ++ n) (.ref D) sh → (∀ p ∈ tl, AllLt p.1 n) → Q .next { s with heap := h', toks := tk' }) : wpAny M A t Q E s :=
  wpAny_mono h (fun f s' z => by obtain ⟨rfl, D, h', tk', tl, rfl, a, b, c, d⟩ := z; exact k D h' tk' tl a b c d) fun _ _ z => z
theorem steps_cut {M : Model} {A : Around} {t : Sem Value} {Q E : Value → Shared → Prop} {s : Shared} {h₀ : Heap} {L : Addr} {m : Str → Option Value} {n : List (Addr × Obj)} {its : List Value} {sh : Shp} (_ : Fr h₀ L s.heap m) (_ : News h₀ L s.heap n) (h : wpAny M A t (StepsR s h₀ L m n its sh) E s)
    (k : ∀ D h' tk' sts c, Fr h₀ L h' m → News h₀ L h' ((D, listOf sts.toArray c) :: n) → AllLt D n → StepsOk sts its sh → Q (.ref D) { s with heap := h', toks := tk' }) : wpAny M A t Q E s :=
  wpAny_mono h (fun v s' z => by obtain ⟨D, h', tk', sts, c, rfl, rfl, a, b, c', d⟩ := z; exact k D h' tk' sts c a b c' d) fun _ _ z => z
theorem fr_same {h₀ h : Heap} {L : Addr} {m : Str → Option Value} {x : Str} {v : Value} (F : Fr h₀ L h m) (e : m x = some v) : Fr h₀ L h (fun y => if y = x then some v else m y) := by
  have q : (fun y => if y = x then some v else m y) = m := funext fun y => by
    by_cases z : y = x
    · rw [if_pos z, z, e]
    · rw [if_neg z]
  rw [q]
  exact F
theorem mkHold {p : Prop} (h : p) : Hold p := h
theorem fold_all {h₀ h : Heap} {L : Addr} {l : List (Addr × Obj)} (N : News h₀ L h l) : ∃ tl, News h₀ L h tl ∧ ∀ p ∈ l, p ∈ tl := ⟨l, N, fun _ => id⟩
section
variable {prog : Program} {w : World} {A : Around} {E : Value → Shared → Prop} {s : Shared} {h₀ : Heap} {L : Addr} {m : Str → Option Value} {news : List (Addr × Obj)}
theorem ne_hdB {h : Str} {t u : Tok} {Q : Value → Shared → Prop} (hh : HdO h) (hu : A.units + 64 < cLine) (hq : Q (.bool true) s) : wpAny (model prog w) A (compareOp .NotEq (.str h t) (.str (Str.ofString "box") u)) Q E s :=
  ne_dataH (.str h t) (.str _ u) (shaped_of hh.lay (by simp only [PyData.depth]; omega)) (by decide +kernel) hu (by rw [show PyData.eqv (.str h) (.str (Str.ofString "box")) = false by simpa [PyData.eqv] using hh.box]; exact hq)
end
theorem gath_hs {prog : Program} {w : World} {p : Program} {loose : List Str} {mean : ExcName → Option Value} {mg mb : Str → Option Value} {dp un : Nat} {gd : Option (List Code)} {cn : Str} {cs : Scope} {a : Addr} {ccd : Value} {cl : List (Str × Addr)} {outer : List Env} {A₀ : Around} {base h₀ : Heap} {L : Addr} {m : Str → Option Value} {s : Shared} {Q E : Value → Shared → Prop} {news : List (Addr × Obj)}
    (B : Below A₀ base outer h₀) (F : Fr h₀ L s.heap m) (X : (Mine.kmk.heap_1 w.params).In h₀) (N : News h₀ L s.heap news) (T : Top p loose mean mg mb h₀) (hk : cs.kind = .function) {v d t hd pa ty : Addr} {c : Nat} {vv : Value} {hx : Str} {its as : List Value} {ds : List PyData} {sh : Shp} {n : List (Addr × Obj)} (H : HS w n t hd vv pa ty hx its ds sh) (hv : VS news (.ref v) sh) (hdl : (d, listOf (as ++ its).toArray c) ∈ news) (ha : as.length ≤ 3) (hdp : dp + 2 < recursionLimit) (hun : un + 80 < cLine)
    (ret : ∀ R c tl P dd h' tk', Fr h₀ L h' m → News h₀ L h' ((R, listOf (as ++ [P]).toArray c) :: (tl ++ news)) → AllLt R news → Rd w (tl ++ n) P dd → Rd w n (.ref hd) dd → PyData.canLay0 dd = true → PyData.depth dd ≤ 10 → Q (.ref R) { s with heap := h', toks := tk' }) :
    wpAny (model prog w) (ktrTop dp un gd cn cs L a ccd cl outer) (call (.ref 126) [.ref d, .ref v]) Q E s := by
  obtain ⟨di, ri, ci, dd⟩ := RGs.all H.rgs
  have cD : PyData.canLay0 (.tuple di) = true := by simp only [PyData.canLay0, ci]
  have dD : PyData.depth (.tuple di) ≤ 10 := by simp only [PyData.depth]; omega
  have hl2 : its.length ≤ 2 := HS.len H
  have hl : (as ++ its).length ≤ 9 := by rw [List.length_append]; omega
  cases H with
  | tu a1 a2 a3 a4 a5 a6 a7 a8 a9 b1 =>
    cases hv with
    | flds m1 m2 => exact gath_flds B F X N T hk m1 m2 hdl (by omega) rfl hl (by omega) hdp hun fun R P c kP h' tk' F' N' l1 l2 => ret R c [(P, _)] _ (.tuple di) h' tk' F' N' l1 (Rd.tuple (.head _) rfl rfl (ri.mono fun p hp => .tail _ hp)) (Rd.tuple a4 rfl rfl ri) cD dD
  | arr a1 a2 a3 a4 a5 a6 a7 a8 a9 =>
    cases hv with
    | flds m1 m2 => exact gath_flds B F X N T hk m1 m2 hdl (by omega) rfl hl (by omega) hdp hun fun R P c kP h' tk' F' N' l1 l2 => ret R c [(P, _)] _ (.tuple di) h' tk' F' N' l1 (Rd.tuple (.head _) rfl rfl (ri.mono fun p hp => .tail _ hp)) (Rd.tuple a3 rfl rfl ri) cD dD
  | box a1 a2 a3 a4 a5 a6 a7 =>
    obtain ⟨dx, rx, cx, ddx⟩ := a7
    cases hv with
    | box m1 => exact gath_box B F X N T hk m1 (.inl rfl) hdl (by omega) hdp hun fun R P c kP t2 h' tk' F' N' l1 l2 => ret R c [(P, _)] _ (.tuple [.str (Str.ofString "box"), dx]) h' tk' F' N' l1 (Rd.tuple (.head _) rfl rfl (.cons .str (.cons (rx.mono fun p hp => .tail _ hp) .nil))) (Rd.tuple a3 rfl rfl (.cons .str (.cons rx .nil))) (by simp only [PyData.canLay0, PyData.canLayAll0, cx, Bool.and_true]; decide +kernel) (by simp only [PyData.depth, PyData.depthAll]; omega)
  | adt a1 a2 a3 a4 a5 a6 a7 a8 a9 b1 b2 b3 =>
    cases hv with
    | vrnt m1 m2 => exact gath_vrnt B F X N T hk m1 m2 hdl (by omega) rfl hl (by omega) hdp hun fun R P P2 c kP kP2 h' tk' F' N' l1 l2 l3 => ret R c [(P, _), (P2, _)] _ (.tuple [.int _, .tuple di]) h' tk' F' N' l1 (Rd.tuple (.head _) rfl rfl (.cons .int (.cons (Rd.tuple (.tail _ (.head _)) rfl rfl (ri.mono fun p hp => .tail _ (.tail _ hp))) .nil))) (Rd.tuple a4 rfl rfl (.cons .int (.cons (Rd.tuple a5 rfl rfl ri) .nil))) (by simp only [PyData.canLay0, PyData.canLayAll0, ci, Bool.and_true]) (by simp only [PyData.depth, PyData.depthAll]; omega)
end Mine
end
section
namespace Mine
open PySem.Spec PySem.Calls PyProof.Rows.LCg
theorem all_cons_ne {q : Addr × Obj} {l : List (Addr × Obj)} {b : Addr} (h : q.1 ≠ b) (h' : ∀ p ∈ l, p.1 ≠ b) : ∀ p ∈ q :: l, p.1 ≠ b := List.forall_mem_cons.mpr ⟨h, h'⟩

noncomputable abbrev qPut : Str := (Str.ofString "fields_of" ++ Str.ofString ".<locals>.") ++ Str.ofString "put_in"
noncomputable abbrev qLam : Str := (Str.ofString "_law_handed_right" ++ Str.ofString ".<locals>.") ++ Str.ofString "<lambda>"
local macro_rules | `(tactic| k_mem) => `(tactic| lcg_src)
local macro_rules | `(tactic| k_all) => `(tactic| first | with_reducible assumption | exact Mine.tl_ne (by with_reducible assumption) (by k_mem) | exact Mine.tl_neN (by with_reducible assumption) (by lcg_src) | exact Mine.allLt_ne (by kaf_suf) | (refine List.forall_mem_append.mpr ⟨?_, ?_⟩ <;> k_all) | ((with_reducible refine Mine.all_cons_ne ?_ ?_); (focus k_ne); k_all))
local macro_rules | `(tactic| walk_at "CompSrc") => `(tactic| refine hold ?_)
local macro_rules | `(tactic| kct_strs) => `(tactic| first | exact off1 (by with_reducible assumption) (by lcg_src) | exact offI (by with_reducible assumption) (by lcg_src) | exact offC (by with_reducible assumption) (by lcg_src) | exact offD (by with_reducible assumption) (by lcg_src))
local macro_rules | `(tactic| k_ne) => `(tactic| (refine neN ?_; (try dsimp only); first | with_reducible assumption | exact Nat.ne_of_gt (by kaf_pre) | exact Nat.ne_of_lt (by kaf_pre) | kct_strs | exact Ne.symm (by kct_strs) | omega))
set_option maxRecDepth 100000 in
set_option maxHeartbeats 200000000 in
theorem handed_right_ok {prog : Program} {w : World} {p : Program} {loose : List Str} {mean : ExcName → Option Value} {mg mb : Str → Option Value} {gd : Option (List Code)} {cn : Str} {cs : Scope} {a : Addr} {ccd : Value} {cl : List (Str × Addr)} {A₀ : Around} {base h₀ : Heap} {L : Addr} {m : Str → Option Value} {s : Shared} {Q E : Value → Shared → Prop}
    (B : Below A₀ base [] h₀) (F : Fr h₀ L s.heap m) (X : (Mine.kmk.heap_1 w.params).In h₀) (T : Top p loose mean mg mb h₀) (hk : cs.kind = .function) {src wx : Addr} {o : Obj} {ps2 ps : Array Value} {rst : List (Addr × Obj)} (ho : SrcOk o) (N : News h₀ L s.heap ((src, o) :: (265, tabObj ps2) :: (94, tabObj ps) :: rst))
    (hr1 : ∀ p ∈ rst, p.1 ≠ src) (hr2 : ∀ p ∈ rst, p.1 ≠ 265) (hr3 : ∀ p ∈ rst, p.1 ≠ 94) (hs1 : src ≠ 265) (hs2 : src ≠ 94)
    (hT1 : TabOk 221 17 qLam ps2 rst) (hT2 : TabOk 223 17 qLam ps2 rst) (hT3 : TabOk 58 4 qPut ps rst) (hC1 : CodeHd base 267 265) (hC2 : CodeHd base 96 94)
    (hg : s.gens = #[]) (hb : base.get? 0 = some (bnObj w.params)) (XB : (Mine.kmk.heap_1 w.params).In base) (TB : Top p loose mean mg mb base) (hW : WorldAt prog w rst (.ref wx))
    (ret : ∀ o' ps2' ps' tl h' tk', News h₀ L h' ((src, o') :: (265, tabObj ps2') :: (94, tabObj ps') :: (tl ++ rst)) → SrcOk o' → TabOk 221 17 qLam ps2' (tl ++ rst) → TabOk 223 17 qLam ps2' (tl ++ rst) → TabOk 58 4 qPut ps' (tl ++ rst) → (∀ p ∈ tl, AllNe p.1 ((src, o) :: (265, tabObj ps2) :: (94, tabObj ps) :: rst)) → Fr h₀ L h' m → Q (.bool true) { s with heap := h', toks := tk' }) :
    wpAny (model prog w) (ktrTop 302 7 gd cn cs L a ccd cl []) (call (.ref 268) [.ref src, .ref wx]) Q E s := by
  have hs1' := hs1.symm
  have hs2' := hs2.symm
  have hw1 : (265 : Nat) ≠ 94 := by decide
  have hw2 : (94 : Nat) ≠ 265 := by decide
  refine wpAny_call ?_
  k_dflt (refine' code_defSC0 ?k1 ?k2 ?k3 ?k4 ?k5 ?kA ?kF ?kK ?k6 ?k7 ?k8 ?k9 ?kB ?kD ?_ ?c2 ?c3 ?c4; (case kA => exact rfl); (case kF => exact rfl); (case kK => assumption); (case k1 => k_asm); (case k2 => k_asm); (case k3 => k_asm); (case k4 => k_asm); (case k5 => k_asm); (case k6 => k_is); (case k7 => k_is); (case k8 => ktr_room); (case k9 => exact BindsTo.of_eq rfl); (case kB => exact rfl); (case kD => decide +kernel); (case c2 => exact rfl); (case c3 => exact rfl); (case c4 => exact rfl); k_whole; intro g' L' h' tk' cells' FG' F' N' Y' B' X' T' l1 D'; (try k_lt l1); k_cells Y'; (try simp only [List.cons_append, List.nil_append] at N'); (try dsimp only); (try k_fold))
  clear F N T
  (repeat' (first | (k_unfold; (try dsimp only)) | (k_end; wrow_close) | (((with_reducible show wpAny _ _ (call (Value.ref 138) _) _ _ _); refine hold ?_)) | (((with_reducible show wpAny _ _ (call (Value.ref 256) _) _ _ _); k_dflt (refine top_le (dp' := 304) (un' := 16) (Nat.le_of_ble_eq_true rfl) (Nat.le_of_ble_eq_true rfl) (handed_ok (dp := 0) (un := 0) (by k_asm) (by k_asm) (by k_asm) (by k_asm) (by k_asm) (by first | exact rfl | assumption) (by k_updF) (by assumption) ?_)); intro RH tH hdH vvH paH tyH hxH itsH dsH shH kRH tlH oH h' tk' F' N' hoH hRH HSH hLtH; (try dsimp only at N'); (replace N' := news_dup N' (List.mem_append_right _ hRH)); (have lRH := hLtH _ hRH); (try dsimp only at lRH); (try simp only [List.cons_append, List.nil_append] at N'))) | ((with_reducible show wpAny _ _ (storeName _ _ _) _ _ _); (k_dflt (refine store_o (by k_asm) (by k_asm) ?_ (by first | exact rfl | assumption) (by rfl)); intro hw7 mw7 Fw7 Nw7)) | ((with_reducible show wpAny _ _ (callWith _ (Value.ref _) _ _ _) _ _ _); (k_here; k_dflt (first | refine' callWith_K ?k1 ?k2 ?_; (case k1 => k_asm); (case k2 => k_is); k_whole | refine' callWith_K0 ?k1 ?k2 ?_; (case k1 => k_in); (case k2 => k_is); k_whole); (try dsimp only [List.nil_append, List.append_nil]))) | ((with_reducible show wpAny _ _ (execs (_ :: _) _) _ _ _); ((with_reducible refine Mine.gen_tok ?_); intro tk; (with_reducible refine wpAny_execs_cons ?_); (try dsimp only))) | walk1 | (dsimp only; walk1) | (leave1; walk_say "STEP leave1"; try dsimp only) | fail "no step"))
  unfold Hold
  have N94 := pull8 (by k_asm)
  k_dflt (refine top_le (dp' := 305) (un' := 16) (Nat.le_of_ble_eq_true rfl) (Nat.le_of_ble_eq_true rfl) (told_right (by k_asm) (by k_asm) (by k_asm) N94 (by k_asm) (by first | exact rfl | assumption) ?hn hT3 hC2 (by assumption) (by assumption) (by assumption) (HS.mono HSH ?hs2) (WorldAt.mono hW ?hs3) ?_))
  case hn => k_all
  case hs2 => intro p hp; lcg_src
  case hs3 => intro p hp; lcg_src
  intro RT psT tlT h' tk' F' N' hTabT hfuT hneT hTwo
  obtain ⟨dT, rT, cT, eT, fT⟩ := hTwo
  replace N' := push8 N'
  (repeat' (first | (k_unfold; (try dsimp only)) | (k_end; wrow_close) | (((with_reducible show wpAny _ _ (call (Value.ref 263) _) _ _ _); refine hold ?_)) | ((with_reducible show wpAny _ _ (compareOp CmpOp.NotEq (Value.ref _) (Value.ref _)) _ _ _); (k_dflt (first | (have _ := hstop9; refine hold ?_) | refine ne_two (by k_asm) (by k_asm) (by k_asm) (by lcg_src) (by lcg_src) (by decide +kernel) (by ktr_units) ?_ | refine ne_sh (by k_asm) (by k_asm) (by k_asm) (Rd.mono rT (by intro q hq; first | lcg_src | (rcases List.mem_append.mp hq with hq | hq; lcg_src; (repeat (rcases List.mem_cons.mp hq with rfl | hq; lcg_src)); lcg_src))) (fT (by lcg_src) (by intro q hq; (repeat (rcases List.mem_cons.mp hq with rfl | hq; lcg_src)); first | lcg_src | (rcases List.mem_append.mp hq with hq | hq <;> lcg_src))) cT eT (by ktr_units) ?_ | refine ne_vs (by k_asm) (by k_asm) (by k_asm) (VS.mono hVS (by intro q hq; rcases List.mem_cons.mp hq with rfl | hq <;> lcg_src)) (by first | exact VS.box (by lcg_src) | exact VS.flds (by lcg_src) (by lcg_src) | exact VS.vrnt (by lcg_src) (by lcg_src)) hOK (by intro q hq; lcg_src) (by ktr_units) ?_ | refine ne_its (by k_asm) (by k_asm) (by k_asm) (by lcg_src) (by lcg_src) (by with_reducible assumption) (by intro q hq; lcg_src) (by ktr_units) ?_ | refine ne_lists (by k_asm) (by k_asm) (by k_asm) (by lcg_src) (by lcg_src) hrg (by intro q hq; lcg_src) (by first | exact Rd.tuple (by lcg_src) rfl rfl (RdAll.mono ri8 (by intro q hq; lcg_src)) | exact Rd.tuple (by lcg_src) rfl rfl (.cons .int (.cons (Rd.tuple (by lcg_src) rfl rfl (RdAll.mono ri8 (by intro q hq; lcg_src))) .nil)) | exact Rd.tuple (by lcg_src) rfl rfl (.cons .str (.cons (Rd.mono ri8 (by intro q hq; lcg_src)) .nil))) (by first | exact Rd.tuple (by lcg_src) rfl rfl (RdAll.mono ri8 (by intro q hq; lcg_src)) | exact Rd.tuple (by lcg_src) rfl rfl (.cons .int (.cons (Rd.tuple (by lcg_src) rfl rfl (RdAll.mono ri8 (by intro q hq; lcg_src))) .nil)) | exact Rd.tuple (by lcg_src) rfl rfl (.cons .str (.cons (Rd.mono ri8 (by intro q hq; lcg_src)) .nil))) cD8 dD8 (by ktr_units) ?_))) | ((with_reducible show wpAny _ _ (eval (PySem.Expr.Tuple _ _ _) _) _ _ _); (k_dflt (refine tuple_svs (by rfl) (by first | exact rfl | assumption) (by k_asm) (by k_asm) (by rfl) (by size_fits) ?_); intro Dw7 hw7 ow7 Fw7 Nw7 lw7)) | ((with_reducible show wpAny _ _ (spliced (backTo _ (starEach (_ :: _) _))) _ _ _); (k_dflt (refine spl_g (by rfl) (by first | exact rfl | assumption) (by k_asm) (by rfl) ?_))) | ((with_reducible show wpAny _ _ (callWith _ (Value.ref _) _ _ _) _ _ _); (k_here; k_dflt (first | refine' callWith_K ?k1 ?k2 ?_; (case k1 => k_asm); (case k2 => k_is); k_whole | refine' callWith_K0 ?k1 ?k2 ?_; (case k1 => k_in); (case k2 => k_is); k_whole); (try dsimp only [List.nil_append, List.append_nil]))) | ((with_reducible show wpAny _ _ (execs [] _) _ _ _); ((with_reducible refine Mine.gen_tok ?_); intro tk; (with_reducible refine wpAny_execs_nil ?_); (try dsimp only))) | ((with_reducible show wpAny _ _ (execs (_ :: _) _) _ _ _); ((with_reducible refine Mine.gen_tok ?_); intro tk; (with_reducible refine wpAny_execs_cons ?_); (try dsimp only))) | walk1 | (dsimp only; walk1) | (leave1; walk_say "STEP leave1"; try dsimp only) | fail "no step"))
  unfold Hold
  k_dflt (refine top_le (dp' := 304) (un' := 16) (Nat.le_of_ble_eq_true rfl) (Nat.le_of_ble_eq_true rfl) (bent_ok (dp := 0) (un := 0) (n := tlH) (by k_asm) (by k_asm) (by k_asm) (by k_asm) (by k_asm) (by first | exact rfl | assumption) (by k_updF) (by assumption) HSH ?hn ?_))
  case hn => exact fun p hp => ⟨by lcg_src, tl_ne hLtH (by lcg_src) p hp⟩
  intro vB tlB oB h' tk' F' N' hoB hB hLtB
  (try dsimp only at N')
  (try simp only [List.cons_append, List.nil_append, List.append_assoc] at N')
  (repeat' (first | (k_unfold; (try dsimp only)) | (k_end; wrow_close) | ((with_reducible show wpAny _ _ (eval (PySem.Expr.Lambda _ _ _ _) _) _ _ _); refine hold ?_) | ((with_reducible show wpAny _ _ (callWith _ (Value.ref _) _ _ _) _ _ _); (k_here; k_dflt (first | refine' callWith_K ?k1 ?k2 ?_; (case k1 => k_asm); (case k2 => k_is); k_whole | refine' callWith_K0 ?k1 ?k2 ?_; (case k1 => k_in); (case k2 => k_is); k_whole); (try dsimp only [List.nil_append, List.append_nil]))) | ((with_reducible show wpAny _ _ (execs (_ :: _) _) _ _ _); ((with_reducible refine Mine.gen_tok ?_); intro tk; (with_reducible refine wpAny_execs_cons ?_); (try dsimp only))) | walk1 | (dsimp only; walk1) | (leave1; walk_say "STEP leave1"; try dsimp only) | fail "no step"))
  unfold Hold
  k_dflt (refine' kla_eval ?d0 ?_; (case d0 => exact rfl))
  k_dflt (refine' lam_tab ?F ?N ?T ?C rfl ?U ?hT rfl ?_; (case F => k_asm); (case N => k_asm); (case T => k_asm); (case C => first | with_reducible assumption | kn_code); (case U => k_updF); (case hT => exact hT1))
  intro f1 c1 oc1 vs1 t1 ct1 psA tlA h' tk' F' N' hmA d1 d2 hstA hfuA hfsA hltA lfA
  (try dsimp only at N')
  replace N' := news_comm N'
  (try simp only [List.cons_append, List.nil_append, List.append_assoc] at N')
  have N9 := news_dup (q := (c1, oc1)) N' (by rcases List.mem_append.mp hmA with hq | hq <;> lcg_src)
  clear N'
  obtain ⟨u9, r9, k9, hTm⟩ := HSH.hT
  obtain ⟨hPS, hOK, kpa, hpam⟩ := HSH.put
  have hc94 : c1 ≠ 94 := ne_tab hmA hr3 (by lcg_src) hltA
  have hc265 : c1 ≠ 265 := ne_tab hmA hr2 (by lcg_src) hltA
  have hcs : c1 ≠ src := ne_tab hmA hr1 (by lcg_src) hltA
  (repeat' (first | (k_unfold; (try dsimp only)) | (k_end; wrow_close) | (((with_reducible show wpAny _ _ (call (Value.ref 225) [Value.ref _]) _ _ _); refine hold ?_)) | walk1 | (dsimp only; walk1) | (leave1; walk_say "STEP leave1"; try dsimp only) | fail "no step"))
  unfold Hold
  k_dflt (refine told_ok (K := Str.ofString "kind") (by k_asm) (by k_asm) (by k_asm) (by k_asm) (by k_asm) (by first | exact rfl | assumption) (by assumption) (by assumption) (by assumption) KtsTurn.refl (by assumption) (by assumption) (by lcg_src) ?hcall (by ktr_room) (by ktr_units) ?_)
  case hcall =>
    (k_dflt (unfold Raises; intro cn' cs' a' ccd' outer' A' base' g' L' m' s' E' B' F' X' N' T' hk' hg' hb' XB' hE'; k_dflt (refine wpAny_call ?_); k_dflt (refine' kla_code ?k1 ?k2 ?k3 ?k4 ?k5 ?kA ?kF ?kK ?k6 ?k7 ?k8 ?k9 ?kB ?_ ?c2 ?c3 ?c4 ?c5; (case kA => exact rfl); (case kF => exact rfl); (case kK => first | exact rfl | assumption); (case k1 => k_asm); (case k2 => k_asm); (case k3 => k_asm); (case k4 => k_asm); (case k5 => k_asm); (case k6 => lcg_src); (case k7 => exact codeRec_news (by k_asm) (by lcg_src) (by assumption) (by assumption)); (case k8 => k_room); (case k9 => exact rfl); (case c5 => decide); (case kB => exact locs rfl); (case c2 => exact rfl); (case c3 => exact rfl); (case c4 => exact rfl); k_whole; intro g' L' h' FG' F' N' B' X' T'; (try dsimp only); (try k_lift B'); (try k_fold))))
    (repeat' (first | (k_unfold; (try dsimp only)) | (k_end; wrow_close) | (((with_reducible show wpAny _ _ (call (Value.ref 138) _) _ _ _); refine hold ?_)) | ((with_reducible show wpAny _ _ (callWith _ (Value.ref _) _ _ _) _ _ _); (k_here; k_dflt (first | refine' callWith_K ?k1 ?k2 ?_; (case k1 => k_asm); (case k2 => k_is); k_whole | refine' callWith_K0 ?k1 ?k2 ?_; (case k1 => k_in); (case k2 => k_is); k_whole); (try dsimp only [List.nil_append, List.append_nil]))) | walk1 | (dsimp only; walk1) | (leave1; walk_say "STEP leave1"; try dsimp only) | fail "no step"))
    unfold Hold
    have N94 := pullK (q := (94, tabObj psT)) 11 (by k_asm) rfl
    dsimp only [List.eraseIdx] at N94
    k_dflt (refine top_le (dp' := 305) (un' := 16) (Nat.le_of_ble_eq_true rfl) (Nat.le_of_ble_eq_true rfl) (told_bent (by k_asm) (by k_asm) (by k_asm) N94 (by k_asm) (by first | exact rfl | assumption) ?hn hTabT (cd94 XB') (by assumption) (by assumption) XB' (hB.mono ?hs2) (WorldAt.mono hW ?hs3) ?hf ?bad))
    case hn => k_all
    case hs2 => intro q hq; rcases List.mem_append.mp hq with hq | hq <;> lcg_src
    case hs3 => intro q hq; lcg_src
    case hf => exact fun u r k hm => hfuT (same_hd N94 (.tail _ (by lcg_src)) (.tail _ hm))
    case bad =>
      intro e' dd' od' tke' G' h' tk' R' U' hK' FG'
      (repeat' (first | (k_unfold; (try dsimp only)) | (k_end; wrow_close) | ((with_reducible show wpAny _ _ (leaving _ (Value.ref _)) _ _ _); (k_dflt (refine leave_onDS (by k_asm) (by rfl) (by with_reducible assumption) (by with_reducible assumption) (by with_reducible assumption) ?_); intro h' R' U')) | walk1 | (dsimp only; walk1) | (leave1; walk_say "STEP leave1"; try dsimp only) | fail "no step"))
      k_dflt (exact hE' _ _ _ _ _ _ _ (RsS.mono (by assumption) (by (intro q hq; (repeat (rcases List.mem_cons.mp hq with rfl | hq; lcg_src)); first | lcg_src | (rcases List.mem_append.mp hq with hq | hq; lcg_src; lcg_src) | (simp only [List.mem_append] at hq; rcases hq with hq | hq | hq | hq <;> lcg_src)))) (by with_reducible assumption) (by with_reducible assumption) (by k_asm))
  intro T' tT' t1' t2' g' h' tk' hTn F' N' l1 B' X' P' D'
  clear N9
  replace N' := news_dr N'
  (repeat' (first | (k_unfold; (try dsimp only)) | (k_end; wrow_close) | ((with_reducible show wpAny _ _ (eval (PySem.Expr.Lambda _ _ _ _) _) _ _ _); refine hold ?_) | ((with_reducible show wpAny _ _ (compareOp CmpOp.NotEq (Value.ref _) (Value.ref _)) _ _ _); (k_dflt (first | (have _ := hstop9; refine hold ?_) | refine ne_two (by k_asm) (by k_asm) (by k_asm) (by lcg_src) (by lcg_src) (by decide +kernel) (by ktr_units) ?_ | refine ne_sh (by k_asm) (by k_asm) (by k_asm) (Rd.mono rT (by intro q hq; first | lcg_src | (rcases List.mem_append.mp hq with hq | hq; lcg_src; (repeat (rcases List.mem_cons.mp hq with rfl | hq; lcg_src)); lcg_src))) (fT (by lcg_src) (by intro q hq; (repeat (rcases List.mem_cons.mp hq with rfl | hq; lcg_src)); first | lcg_src | (rcases List.mem_append.mp hq with hq | hq <;> lcg_src))) cT eT (by ktr_units) ?_ | refine ne_vs (by k_asm) (by k_asm) (by k_asm) (VS.mono hVS (by intro q hq; rcases List.mem_cons.mp hq with rfl | hq <;> lcg_src)) (by first | exact VS.box (by lcg_src) | exact VS.flds (by lcg_src) (by lcg_src) | exact VS.vrnt (by lcg_src) (by lcg_src)) hOK (by intro q hq; lcg_src) (by ktr_units) ?_ | refine ne_its (by k_asm) (by k_asm) (by k_asm) (by lcg_src) (by lcg_src) (by with_reducible assumption) (by intro q hq; lcg_src) (by ktr_units) ?_ | refine ne_lists (by k_asm) (by k_asm) (by k_asm) (by lcg_src) (by lcg_src) hrg (by intro q hq; lcg_src) (by first | exact Rd.tuple (by lcg_src) rfl rfl (RdAll.mono ri8 (by intro q hq; lcg_src)) | exact Rd.tuple (by lcg_src) rfl rfl (.cons .int (.cons (Rd.tuple (by lcg_src) rfl rfl (RdAll.mono ri8 (by intro q hq; lcg_src))) .nil)) | exact Rd.tuple (by lcg_src) rfl rfl (.cons .str (.cons (Rd.mono ri8 (by intro q hq; lcg_src)) .nil))) (by first | exact Rd.tuple (by lcg_src) rfl rfl (RdAll.mono ri8 (by intro q hq; lcg_src)) | exact Rd.tuple (by lcg_src) rfl rfl (.cons .int (.cons (Rd.tuple (by lcg_src) rfl rfl (RdAll.mono ri8 (by intro q hq; lcg_src))) .nil)) | exact Rd.tuple (by lcg_src) rfl rfl (.cons .str (.cons (Rd.mono ri8 (by intro q hq; lcg_src)) .nil))) cD8 dD8 (by ktr_units) ?_))) | ((with_reducible show wpAny _ _ (eval (PySem.Expr.Tuple _ _ _) _) _ _ _); (k_dflt (refine tuple_svs (by rfl) (by first | exact rfl | assumption) (by k_asm) (by k_asm) (by rfl) (by size_fits) ?_); intro Dw7 hw7 ow7 Fw7 Nw7 lw7)) | ((with_reducible show wpAny _ _ (callWith _ (Value.ref _) _ _ _) _ _ _); (k_here; k_dflt (first | refine' callWith_K ?k1 ?k2 ?_; (case k1 => k_asm); (case k2 => k_is); k_whole | refine' callWith_K0 ?k1 ?k2 ?_; (case k1 => k_in); (case k2 => k_is); k_whole); (try dsimp only [List.nil_append, List.append_nil]))) | ((with_reducible show wpAny _ _ (execs [] _) _ _ _); ((with_reducible refine Mine.gen_tok ?_); intro tk; (with_reducible refine wpAny_execs_nil ?_); (try dsimp only))) | ((with_reducible show wpAny _ _ (execs (_ :: _) _) _ _ _); ((with_reducible refine Mine.gen_tok ?_); intro tk; (with_reducible refine wpAny_execs_cons ?_); (try dsimp only))) | walk1 | (dsimp only; walk1) | (leave1; walk_say "STEP leave1"; try dsimp only) | fail "no step"))
  unfold Hold
  have hAA := hstA (tlA ++ rst) oc1 vs1 t1 hmA d1 d2
  have hT2A := hAA.2 223 17 qLam (by decide) (TabOk.mono hT2 fun p hp => List.mem_append_right _ hp)
  k_dflt (refine' kla_eval ?d0 ?_; (case d0 => exact rfl))
  k_dflt (refine' lam_tab ?F ?N ?T ?C rfl ?U ?hT rfl ?_; (case F => k_asm); (case N => k_asm); (case T => k_asm); (case C => first | with_reducible assumption | kn_code); (case U => k_updF); (case hT => exact hT2A))
  intro f2 c2 oc2 vs2 t2 ct2 psB tlC h' tk' F' N' hmB e1 e2 hstB hfuB hfsB hltB lfB
  (try dsimp only at N')
  replace N' := news_comm N'
  (try simp only [List.cons_append, List.nil_append, List.append_assoc] at N')
  have hd94 : c2 ≠ 94 := ne_tab hmB (ne_tabL hltA (by lcg_src) hr3) (by lcg_src) hltB
  have hd265 : c2 ≠ 265 := ne_tab hmB (ne_tabL hltA (by lcg_src) hr2) (by lcg_src) hltB
  have hds : c2 ≠ src := ne_tab hmB (ne_tabL hltA (by lcg_src) hr1) (by lcg_src) hltB
  have N9 := news_dup (q := (c2, oc2)) N' (by rcases List.mem_append.mp hmB with hq | hq; lcg_src; rcases List.mem_append.mp hq with hq | hq <;> lcg_src)
  clear N'
  (repeat' (first | (k_unfold; (try dsimp only)) | (k_end; wrow_close) | (((with_reducible show wpAny _ _ (call (Value.ref 225) [Value.ref _]) _ _ _); refine hold ?_)) | walk1 | (dsimp only; walk1) | (leave1; walk_say "STEP leave1"; try dsimp only) | fail "no step"))
  unfold Hold
  k_dflt (refine told_ok (K := Str.ofString "kind") (by k_asm) (by k_asm) (by k_asm) (by k_asm) (by k_asm) (by first | exact rfl | assumption) (by assumption) (by assumption) (by assumption) KtsTurn.refl (by assumption) (by assumption) (by lcg_src) ?hcall (by ktr_room) (by ktr_units) ?_)
  case hcall =>
    (k_dflt (unfold Raises; intro cn' cs' a' ccd' outer' A' base' g' L' m' s' E' B' F' X' N' T' hk' hg' hb' XB' hE'; k_dflt (refine wpAny_call ?_); k_dflt (refine' kla_code ?k1 ?k2 ?k3 ?k4 ?k5 ?kA ?kF ?kK ?k6 ?k7 ?k8 ?k9 ?kB ?_ ?c2 ?c3 ?c4 ?c5; (case kA => exact rfl); (case kF => exact rfl); (case kK => first | exact rfl | assumption); (case k1 => k_asm); (case k2 => k_asm); (case k3 => k_asm); (case k4 => k_asm); (case k5 => k_asm); (case k6 => lcg_src); (case k7 => exact codeRec_news (by k_asm) (by lcg_src) (by assumption) (by assumption)); (case k8 => k_room); (case k9 => exact rfl); (case c5 => decide); (case kB => exact locs rfl); (case c2 => exact rfl); (case c3 => exact rfl); (case c4 => exact rfl); k_whole; intro g' L' h' FG' F' N' B' X' T'; (try dsimp only); (try k_lift B'); (try k_fold))))
    (repeat' (first | (k_unfold; (try dsimp only)) | (k_end; wrow_close) | (((with_reducible show wpAny _ _ (call (Value.ref 138) _) _ _ _); refine hold ?_)) | ((with_reducible show wpAny _ _ (eval (PySem.Expr.Tuple _ _ _) _) _ _ _); (k_dflt (refine tuple_svs (by rfl) (by first | exact rfl | assumption) (by k_asm) (by k_asm) (by rfl) (by size_fits) ?_); intro Dw7 hw7 ow7 Fw7 Nw7 lw7)) | ((with_reducible show wpAny _ _ (callWith _ (Value.ref _) _ _ _) _ _ _); (k_here; k_dflt (first | refine' callWith_K ?k1 ?k2 ?_; (case k1 => k_asm); (case k2 => k_is); k_whole | refine' callWith_K0 ?k1 ?k2 ?_; (case k1 => k_in); (case k2 => k_is); k_whole); (try dsimp only [List.nil_append, List.append_nil]))) | walk1 | (dsimp only; walk1) | (leave1; walk_say "STEP leave1"; try dsimp only) | fail "no step"))
    unfold Hold
    k_dflt (refine top_le (dp' := 305) (un' := 16) (Nat.le_of_ble_eq_true rfl) (Nat.le_of_ble_eq_true rfl) (told_leaf (dp := 0) (un := 0) (its := [_]) (by k_asm) (by k_asm) (by k_asm) (by k_asm) (by k_asm) (by first | exact rfl | assumption) (by assumption) (by assumption) XB' (by lcg_src) (by lcg_src) ?bad))
    case bad =>
      intro e' dd' od' tke' G' h' tk' R' U' hK' FG'
      (repeat' (first | (k_unfold; (try dsimp only)) | (k_end; wrow_close) | ((with_reducible show wpAny _ _ (leaving _ (Value.ref _)) _ _ _); (k_dflt (refine leave_onDS (by k_asm) (by rfl) (by with_reducible assumption) (by with_reducible assumption) (by with_reducible assumption) ?_); intro h' R' U')) | walk1 | (dsimp only; walk1) | (leave1; walk_say "STEP leave1"; try dsimp only) | fail "no step"))
      k_dflt (exact hE' _ _ _ _ _ _ _ (RsS.mono (by assumption) (by intro q hq; rcases List.mem_cons.mp hq with rfl | hq <;> lcg_src)) (by with_reducible assumption) (by with_reducible assumption) (by k_asm))
  intro T' tT' t1' t2' g' h' tk' hTn F' N' l1 B' X' P' D'
  clear N9
  replace N' := news_dr N'
  (repeat' (first | (k_unfold; (try dsimp only)) | (k_end; wrow_close) | ((with_reducible show wpAny _ _ (eval (PySem.Expr.ListComp _ _ _ _) _) _ _ _); (k_dflt (refine LCg.ListComp_U (F₀ := by k_asm) (by with_unfolding_all rfl) (by decide) (by rfl) (by decide) (by rfl) ?_))) | (((with_reducible show wpAny _ _ (call (Value.ref 145) _) _ _ _); k_dflt (refine put_ok (by k_asm) (by k_asm) (by k_asm) (by k_asm) (by k_asm) (by first | exact rfl | assumption) (n := tlH) (by lcg_src) hpam (by intro q hq; lcg_src) hPS (by ktr_room) (by ktr_units) ?_); intro DV oDV h' tk' F' N' lV hVS)) | ((with_reducible show wpAny _ _ (compareOp CmpOp.NotEq (Value.ref _) (Value.ref _)) _ _ _); (k_dflt (first | (have _ := hstop9; refine hold ?_) | refine ne_two (by k_asm) (by k_asm) (by k_asm) (by lcg_src) (by lcg_src) (by decide +kernel) (by ktr_units) ?_ | refine ne_sh (by k_asm) (by k_asm) (by k_asm) (Rd.mono rT (by intro q hq; first | lcg_src | (rcases List.mem_append.mp hq with hq | hq; lcg_src; (repeat (rcases List.mem_cons.mp hq with rfl | hq; lcg_src)); lcg_src))) (fT (by lcg_src) (by intro q hq; (repeat (rcases List.mem_cons.mp hq with rfl | hq; lcg_src)); first | lcg_src | (rcases List.mem_append.mp hq with hq | hq <;> lcg_src))) cT eT (by ktr_units) ?_ | refine ne_vs (by k_asm) (by k_asm) (by k_asm) (VS.mono hVS (by intro q hq; rcases List.mem_cons.mp hq with rfl | hq <;> lcg_src)) (by first | exact VS.box (by lcg_src) | exact VS.flds (by lcg_src) (by lcg_src) | exact VS.vrnt (by lcg_src) (by lcg_src)) hOK (by intro q hq; lcg_src) (by ktr_units) ?_ | refine ne_its (by k_asm) (by k_asm) (by k_asm) (by lcg_src) (by lcg_src) (by with_reducible assumption) (by intro q hq; lcg_src) (by ktr_units) ?_ | refine ne_lists (by k_asm) (by k_asm) (by k_asm) (by lcg_src) (by lcg_src) hrg (by intro q hq; lcg_src) (by first | exact Rd.tuple (by lcg_src) rfl rfl (RdAll.mono ri8 (by intro q hq; lcg_src)) | exact Rd.tuple (by lcg_src) rfl rfl (.cons .int (.cons (Rd.tuple (by lcg_src) rfl rfl (RdAll.mono ri8 (by intro q hq; lcg_src))) .nil)) | exact Rd.tuple (by lcg_src) rfl rfl (.cons .str (.cons (Rd.mono ri8 (by intro q hq; lcg_src)) .nil))) (by first | exact Rd.tuple (by lcg_src) rfl rfl (RdAll.mono ri8 (by intro q hq; lcg_src)) | exact Rd.tuple (by lcg_src) rfl rfl (.cons .int (.cons (Rd.tuple (by lcg_src) rfl rfl (RdAll.mono ri8 (by intro q hq; lcg_src))) .nil)) | exact Rd.tuple (by lcg_src) rfl rfl (.cons .str (.cons (Rd.mono ri8 (by intro q hq; lcg_src)) .nil))) cD8 dD8 (by ktr_units) ?_))) | (((with_reducible show wpAny _ _ (call (Value.ref 211) [Value.ref _, Value.int _ _]) _ _ _); k_dflt (refine' take_ok ?B ?F ?X ?N ?T ?hk ?U ?ho ?h1 ?h2 ?hd ?hu ?_; (case B => k_asm); (case F => k_asm); (case X => k_asm); (case N => k_asm); (case T => k_asm); (case hk => first | exact rfl | assumption); (case U => k_updF); (case ho => assumption); (case h1 => first | omega | (simp only [List.size_toArray, List.length_cons, List.length_nil]; omega)); (case h2 => first | omega | (simp only [List.size_toArray, List.length_cons, List.length_nil]; omega)); (case hd => ktr_room); (case hu => ktr_units)); intro dT tT oT hT tkT hdT hdT2 hoT F' N'; (try dsimp only at N'); (try k_sweep))) | ((with_reducible show wpAny _ _ (eval (PySem.Expr.Tuple _ _ _) _) _ _ _); (k_dflt (refine tuple_svs (by rfl) (by first | exact rfl | assumption) (by k_asm) (by k_asm) (by rfl) (by size_fits) ?_); intro Dw7 hw7 ow7 Fw7 Nw7 lw7)) | ((with_reducible show wpAny _ _ (spliced (backTo _ (starEach (_ :: _) _))) _ _ _); (k_dflt (refine spl_g (by rfl) (by first | exact rfl | assumption) (by k_asm) (by rfl) ?_))) | ((with_reducible show wpAny _ _ (callWith _ (Value.ref _) _ _ _) _ _ _); (k_here; k_dflt (first | refine' callWith_K ?k1 ?k2 ?_; (case k1 => k_asm); (case k2 => k_is); k_whole | refine' callWith_K0 ?k1 ?k2 ?_; (case k1 => k_in); (case k2 => k_is); k_whole); (try dsimp only [List.nil_append, List.append_nil]))) | ((with_reducible show wpAny _ _ (execs [] _) _ _ _); ((with_reducible refine Mine.gen_tok ?_); intro tk; (with_reducible refine wpAny_execs_nil ?_); (try dsimp only))) | ((with_reducible show wpAny _ _ (execs (_ :: _) _) _ _ _); ((with_reducible refine Mine.gen_tok ?_); intro tk; (with_reducible refine wpAny_execs_cons ?_); (try dsimp only))) | walk1 | (dsimp only; walk1) | (leave1; walk_say "STEP leave1"; try dsimp only) | fail "no step"))
  unfold Hold
  obtain ⟨j, ej⟩ := Int.eq_ofNat_of_zero_le hdT
  subst ej
  have hj4 : j < 4 := by omega
  have P1 := (by first | exact pullK (q := (src, oT)) 12 (by k_asm) rfl | exact pullK (q := (src, oT)) 13 (by k_asm) rfl | exact pullK (q := (src, oT)) 14 (by k_asm) rfl | exact pullK (q := (src, oT)) 15 (by k_asm) rfl | exact pullK (q := (src, oT)) 16 (by k_asm) rfl | exact pullK (q := (src, oT)) 17 (by k_asm) rfl | exact pullK (q := (src, oT)) 18 (by k_asm) rfl | exact pullK (q := (src, oT)) 19 (by k_asm) rfl | exact pullK (q := (src, oT)) 20 (by k_asm) rfl)
  dsimp only [List.eraseIdx] at P1
  have P2 := news_dup (q := (94, tabObj psT)) P1 (by lcg_src)
  have P3 := napp3 (news_dup (q := (265, tabObj psB)) P2 (by lcg_src))
  refine LCg.CompSrc.range (n := j) (by rfl) (by k_asm) P3 (by assumption) (rg_small hj4).1 (rg_small hj4).2.1 (rg_small hj4).2.2 fun g1 => ?_
  refine rest_leafs (o₀ := oT) (n := j) ?turn ?fin j 0 [] [] _ (Nat.zero_add j) rfl (by assumption) RGs.nil lt_nil
  case turn =>
    intro ys tl o1 i v I oI C oC D m2 h tk Q1 E1 ho1 hlt1 hP hC hx F' N' off' ne' ret1
    (repeat' (first | (k_unfold; (try dsimp only)) | (k_end; wrow_close) | (((with_reducible show wpAny _ _ (call (Value.ref 232) [Value.ref _]) _ _ _); k_dflt (refine' leaf_ok ?B ?F ?X ?N ?T ?hk ?U ?ho ?hd ?hu ?_; (case B => k_asm); (case F => k_asm); (case X => k_asm); (case N => k_asm); (case T => k_asm); (case hk => first | exact rfl | assumption); (case U => k_updF); (case ho => assumption); (case hd => ktr_room); (case hu => ktr_units)); intro vL dL tlL oL hL tkL hRd hGd hLt hoL F' N'; (try dsimp only at N'); (try simp only [List.cons_append, List.nil_append] at N'); (try k_sweep))) | ((with_reducible show wpAny _ _ (callWith _ (Value.ref _) _ _ _) _ _ _); (k_here; k_dflt (first | refine' callWith_K ?k1 ?k2 ?_; (case k1 => k_asm); (case k2 => k_is); k_whole | refine' callWith_K0 ?k1 ?k2 ?_; (case k1 => k_in); (case k2 => k_is); k_whole); (try dsimp only [List.nil_append, List.append_nil]))) | walk1 | (dsimp only; walk1) | (leave1; walk_say "STEP leave1"; try dsimp only) | fail "no step"))
    exact ret1 _ _ _ _ _ _ (by with_reducible assumption) (by with_reducible assumption) (by with_reducible assumption) (by with_reducible assumption) (by k_asm) (by k_asm)
  case fin =>
    intro ys tl o1 hlen ho1 hrg hlt1 D h tk F' N' off9
    have hil : itsH.length ≤ 2 := HSH.len
    (repeat' (first | (k_unfold; (try dsimp only)) | (k_end; wrow_close) | ((with_reducible show wpAny _ _ (exec (Stmt.If _ _ _ _) _) _ _ _); refine hold ?_) | ((with_reducible show wpAny _ _ (binaryOp Operator.Add (Value.ref _) (Value.ref _)) _ _ _); (k_dflt (first | (refine add_any (xs := [_]) (by k_asm) (by k_asm) (by lcg_src) (by lcg_src) (by simp only [List.length_cons, List.length_nil]; omega) ?_; intro TA nA h' F' N') | (refine add_ls (vs := ys) (by k_asm) (by k_asm) (by lcg_src) (by lcg_src) (by first | omega | (simp only [List.length_cons, List.length_nil]; omega)) ?_; intro TA h' F' N' lA)))) | ((with_reducible show wpAny _ _ (storeName _ _ _) _ _ _); (k_dflt (refine store_o (by k_asm) (by k_asm) ?_ (by first | exact rfl | assumption) (by rfl)); intro hw7 mw7 Fw7 Nw7)) | ((with_reducible show wpAny _ _ (newTuple _) _ _ _); (k_dflt (refine tuple_o (by k_asm) (by k_asm) (by size_fits) ?_); intro Dw7 hw7 ow7 Fw7 Nw7 lw7)) | ((with_reducible show wpAny _ _ (eval (PySem.Expr.Tuple _ _ _) _) _ _ _); (k_dflt (refine tuple_svs (by rfl) (by first | exact rfl | assumption) (by k_asm) (by k_asm) (by rfl) (by size_fits) ?_); intro Dw7 hw7 ow7 Fw7 Nw7 lw7)) | ((with_reducible show wpAny _ _ (execs (_ :: _) _) _ _ _); ((with_reducible refine Mine.gen_tok ?_); intro tk; (with_reducible refine wpAny_execs_cons ?_); (try dsimp only))) | walk1 | (dsimp only; walk1) | (leave1; walk_say "STEP leave1"; try dsimp only) | fail "no step"))
    unfold Hold
    (with_reducible rename News _ _ _ _ => N0)
    (with_reducible rename Fr _ _ _ _ => F0)
    have N9' := fold_all N0
    have F9 := mkHold F0
    have FG9 := mkHold FG'
    clear N0 F0
    repeat ((with_reducible rename News _ _ _ _ => Nx); clear Nx)
    repeat ((with_reducible rename Fr _ _ _ _ => Nx); clear Nx)
    unfold Hold at F9 FG9
    obtain ⟨tl9, N9, hs9⟩ := N9'
    have ht9 := hs9 (L' + 1 + 1 + 1 + 1 + 1, _) (by lcg_src)
    have hv9 := hs9 (L' + 1 + 1 + 1, _) (by lcg_src)
    have hA9 := hs9 (TA, _) (by lcg_src)
    have hD9 := hs9 (D, _) (by lcg_src)
    have hp9 := hs9 (paH, tup itsH.toArray kpa) (by lcg_src)
    have HS9 := HS.mono HSH (fun q hq => hs9 q (by lcg_src))
    have hVS9 := VS.mono hVS (n' := tl9) (fun q hq => hs9 q (by rcases List.mem_cons.mp hq with rfl | hq <;> lcg_src))
    have hrg9 := hrg.mono (n' := tl9) (fun q hq => hs9 q (by lcg_src))
    have hOK9 := hOK.mono (n' := tl9) (fun q hq => hs9 q (by lcg_src))
    have hTm9 := hs9 _ (by lcg_src : (tH, tup (Value.str hxH u9 :: r9).toArray k9) ∈ _)
    have hlt4 : itsH.length < 4 := by omega
    have hl3 : itsH.length ≤ 3 := by omega
    refine made_cut (sh := shH) (by k_asm) N9 ?mA ?mB
    case mA =>
      clear hs9
      cases hPS with
      | box =>
        (repeat' (first | (k_unfold; (try dsimp only)) | (k_end; wrow_close) | (((with_reducible show wpAny _ _ (subscriptTail _ _ (Value.ref _) (Value.int 0 _)) _ _ _); k_dflt (refine item_at0 (by k_asm) (by lcg_src) ?_))) | ((with_reducible show wpAny _ _ (execs [] _) _ _ _); ((with_reducible refine Mine.gen_tok ?_); intro tk; (with_reducible refine wpAny_execs_nil ?_); (try dsimp only))) | walk1 | (dsimp only; walk1) | (leave1; walk_say "STEP leave1"; try dsimp only) | fail "no step"))
        exact ⟨rfl, TA, _, _, [], rfl, fr_same (by k_asm) rfl, by k_asm, .box hA9, lt_nil⟩
      | adt =>
        (repeat' (first | (k_unfold; (try dsimp only)) | (k_end; wrow_close) | (((with_reducible show wpAny _ _ (subscriptTail _ _ (Value.ref _) (Value.int 0 _)) _ _ _); k_dflt (refine item_at0 (by k_asm) (by lcg_src) ?_))) | ((with_reducible show wpAny _ _ (storeName _ _ _) _ _ _); (k_dflt (refine store_o (by k_asm) (by k_asm) ?_ (by first | exact rfl | assumption) (by rfl)); intro hw7 mw7 Fw7 Nw7)) | ((with_reducible show wpAny _ _ (eval (PySem.Expr.Tuple _ _ _) _) _ _ _); (k_dflt (refine tuple_svs (by rfl) (by first | exact rfl | assumption) (by k_asm) (by k_asm) (by rfl) (by size_fits) ?_); intro Dw7 hw7 ow7 Fw7 Nw7 lw7)) | ((with_reducible show wpAny _ _ (execs [] _) _ _ _); ((with_reducible refine Mine.gen_tok ?_); intro tk; (with_reducible refine wpAny_execs_nil ?_); (try dsimp only))) | ((with_reducible show wpAny _ _ (execs (_ :: _) _) _ _ _); ((with_reducible refine Mine.gen_tok ?_); intro tk; (with_reducible refine wpAny_execs_cons ?_); (try dsimp only))) | walk1 | (dsimp only; walk1) | (leave1; walk_say "STEP leave1"; try dsimp only) | fail "no step"))
        exact ⟨rfl, _, _, _, [(_, _)], rfl, by k_asm, by k_asm, .vrnt (.head _) (.tail _ hp9), lt_cons (by kaf_suf) lt_nil⟩
      | oth hO9 =>
        (repeat' (first | (k_unfold; (try dsimp only)) | (k_end; wrow_close) | (((with_reducible show wpAny _ _ (subscriptTail _ _ (Value.ref _) (Value.int 0 _)) _ _ _); k_dflt (refine item_at0 (by k_asm) (by lcg_src) ?_))) | (((with_reducible show wpAny _ _ (compareOp CmpOp.Eq (Value.str hxH _) (Value.str (Str.ofString "adt") _)) _ _ _); k_dflt (refine eq_hdA hO9 (by ktr_units) ?_))) | (((with_reducible show wpAny _ _ (compareOp CmpOp.NotEq (Value.str hxH _) (Value.str (Str.ofString "box") _)) _ _ _); k_dflt (refine ne_hdB hO9 (by ktr_units) ?_))) | ((with_reducible show wpAny _ _ (storeName _ _ _) _ _ _); (k_dflt (refine store_o (by k_asm) (by k_asm) ?_ (by first | exact rfl | assumption) (by rfl)); intro hw7 mw7 Fw7 Nw7)) | ((with_reducible show wpAny _ _ (eval (PySem.Expr.Tuple _ _ _) _) _ _ _); (k_dflt (refine tuple_svs (by rfl) (by first | exact rfl | assumption) (by k_asm) (by k_asm) (by rfl) (by size_fits) ?_); intro Dw7 hw7 ow7 Fw7 Nw7 lw7)) | ((with_reducible show wpAny _ _ (execs [] _) _ _ _); ((with_reducible refine Mine.gen_tok ?_); intro tk; (with_reducible refine wpAny_execs_nil ?_); (try dsimp only))) | ((with_reducible show wpAny _ _ (execs (_ :: _) _) _ _ _); ((with_reducible refine Mine.gen_tok ?_); intro tk; (with_reducible refine wpAny_execs_cons ?_); (try dsimp only))) | walk1 | (dsimp only; walk1) | (leave1; walk_say "STEP leave1"; try dsimp only) | fail "no step"))
        exact ⟨rfl, _, _, _, [(_, _)], rfl, by k_asm, by k_asm, .flds (.head _) (.tail _ hp9), lt_cons (by kaf_suf) lt_nil⟩
    case mB =>
      intro DM h' tk' tlM F' N' hVM hlM
      have hstop9 : True := trivial
      (repeat' (first | (k_unfold; (try dsimp only)) | (k_end; wrow_close) | ((with_reducible show wpAny _ _ (compareOp CmpOp.NotEq (Value.ref _) (Value.ref _)) _ _ _); (k_dflt (first | (have _ := hstop9; refine hold ?_) | refine ne_two (by k_asm) (by k_asm) (by k_asm) (by lcg_src) (by lcg_src) (by decide +kernel) (by ktr_units) ?_ | refine ne_sh (by k_asm) (by k_asm) (by k_asm) (Rd.mono rT (by intro q hq; first | lcg_src | (rcases List.mem_append.mp hq with hq | hq; lcg_src; (repeat (rcases List.mem_cons.mp hq with rfl | hq; lcg_src)); lcg_src))) (fT (by lcg_src) (by intro q hq; (repeat (rcases List.mem_cons.mp hq with rfl | hq; lcg_src)); first | lcg_src | (rcases List.mem_append.mp hq with hq | hq <;> lcg_src))) cT eT (by ktr_units) ?_ | refine ne_vs (by k_asm) (by k_asm) (by k_asm) (VS.mono hVS (by intro q hq; rcases List.mem_cons.mp hq with rfl | hq <;> lcg_src)) (by first | exact VS.box (by lcg_src) | exact VS.flds (by lcg_src) (by lcg_src) | exact VS.vrnt (by lcg_src) (by lcg_src)) hOK (by intro q hq; lcg_src) (by ktr_units) ?_ | refine ne_its (by k_asm) (by k_asm) (by k_asm) (by lcg_src) (by lcg_src) (by with_reducible assumption) (by intro q hq; lcg_src) (by ktr_units) ?_ | refine ne_lists (by k_asm) (by k_asm) (by k_asm) (by lcg_src) (by lcg_src) hrg (by intro q hq; lcg_src) (by first | exact Rd.tuple (by lcg_src) rfl rfl (RdAll.mono ri8 (by intro q hq; lcg_src)) | exact Rd.tuple (by lcg_src) rfl rfl (.cons .int (.cons (Rd.tuple (by lcg_src) rfl rfl (RdAll.mono ri8 (by intro q hq; lcg_src))) .nil)) | exact Rd.tuple (by lcg_src) rfl rfl (.cons .str (.cons (Rd.mono ri8 (by intro q hq; lcg_src)) .nil))) (by first | exact Rd.tuple (by lcg_src) rfl rfl (RdAll.mono ri8 (by intro q hq; lcg_src)) | exact Rd.tuple (by lcg_src) rfl rfl (.cons .int (.cons (Rd.tuple (by lcg_src) rfl rfl (RdAll.mono ri8 (by intro q hq; lcg_src))) .nil)) | exact Rd.tuple (by lcg_src) rfl rfl (.cons .str (.cons (Rd.mono ri8 (by intro q hq; lcg_src)) .nil))) cD8 dD8 (by ktr_units) ?_))) | ((with_reducible show wpAny _ _ (execs (_ :: _) _) _ _ _); ((with_reducible refine Mine.gen_tok ?_); intro tk; (with_reducible refine wpAny_execs_cons ?_); (try dsimp only))) | walk1 | (dsimp only; walk1) | (leave1; walk_say "STEP leave1"; try dsimp only) | fail "no step"))
      unfold Hold
      refine ne_vs (by k_asm) (by k_asm) (by k_asm) (hVS9.mono (by intro q hq; lcg_src)) hVM hOK9 (by intro q hq; lcg_src) (by ktr_units) ?_
      (repeat' (first | (k_unfold; (try dsimp only)) | (k_end; wrow_close) | ((with_reducible show wpAny _ _ (eval (PySem.Expr.IfExp _ _ _ _) _) _ _ _); refine hold ?_) | ((with_reducible show wpAny _ _ (execs [] _) _ _ _); ((with_reducible refine Mine.gen_tok ?_); intro tk; (with_reducible refine wpAny_execs_nil ?_); (try dsimp only))) | ((with_reducible show wpAny _ _ (execs (_ :: _) _) _ _ _); ((with_reducible refine Mine.gen_tok ?_); intro tk; (with_reducible refine wpAny_execs_cons ?_); (try dsimp only))) | walk1 | (dsimp only; walk1) | (leave1; walk_say "STEP leave1"; try dsimp only) | fail "no step"))
      unfold Hold
      refine steps_cut (sh := shH) (its := itsH) (by k_asm) (by k_asm) ?sA ?sB
      case sA =>
        clear hs9
        cases hPS with
        | box =>
          (repeat' (first | (k_unfold; (try dsimp only)) | (k_end; wrow_close) | (((with_reducible show wpAny _ _ (subscriptTail _ _ (Value.ref _) (Value.int 0 _)) _ _ _); k_dflt (refine item_at0 (by k_asm) (by lcg_src) ?_))) | ((with_reducible show wpAny _ _ (eval (PySem.Expr.List _ _) _) _ _ _); (k_dflt (refine list_svs (by rfl) (by first | exact rfl | assumption) (by k_asm) (by k_asm) (by rfl) (by size_fits) ?_); intro Dw7 hw7 ow7 Fw7 Nw7 lw7)) | walk1 | (dsimp only; walk1) | (leave1; walk_say "STEP leave1"; try dsimp only) | fail "no step"))
          exact ⟨_, _, _, _, _, rfl, rfl, by k_asm, by k_asm, by kaf_suf, .box⟩
        | adt =>
          (repeat' (first | (k_unfold; (try dsimp only)) | (k_end; wrow_close) | ((with_reducible show wpAny _ _ (call (Value.type "list") [_]) _ _ _); (k_dflt (first | (refine' kll_range ?hh ?F ?N ?hr ?a ?b ?c ?_; (case F => k_asm); (case N => k_asm); (case hr => with_reducible assumption); (case a => exact (rg_small hlt4).1); (case b => exact (rg_small hlt4).2.1); (case c => with_reducible exact Nat.le_trans (Nat.le_of_lt hlt4) (by decide)); (case hh => rfl); intro DL usL cL h' tk' F' N' lL hI'; (try k_lt lL)) | (refine listT (by k_asm) (by k_asm) (by lcg_src) (by first | omega | simp) ?_; intro DP cP h' F' N' lP)))) | ((with_reducible show wpAny _ _ (call (Value.builtin "len") [_]) _ _ _); (k_dflt (refine len_tupL (by k_asm) (by lcg_src) (by with_reducible assumption) ?_))) | (((with_reducible show wpAny _ _ (subscriptTail _ _ (Value.ref _) (Value.int 0 _)) _ _ _); k_dflt (refine item_at0 (by k_asm) (by lcg_src) ?_))) | ((with_reducible show wpAny _ _ (spliced (backTo _ (starEach (_ :: _) _))) _ _ _); (k_dflt (refine spl_g (by rfl) (by first | exact rfl | assumption) (by k_asm) (by rfl) ?_))) | walk1 | (dsimp only; walk1) | (leave1; walk_say "STEP leave1"; try dsimp only) | fail "no step"))
          exact ⟨_, _, _, _, _, rfl, rfl, by k_asm, by k_asm, by kaf_suf, .idx hI' rfl⟩
        | oth hO9 =>
          (repeat' (first | (k_unfold; (try dsimp only)) | (k_end; wrow_close) | ((with_reducible show wpAny _ _ (call (Value.type "list") [_]) _ _ _); (k_dflt (first | (refine' kll_range ?hh ?F ?N ?hr ?a ?b ?c ?_; (case F => k_asm); (case N => k_asm); (case hr => with_reducible assumption); (case a => exact (rg_small hlt4).1); (case b => exact (rg_small hlt4).2.1); (case c => with_reducible exact Nat.le_trans (Nat.le_of_lt hlt4) (by decide)); (case hh => rfl); intro DL usL cL h' tk' F' N' lL hI'; (try k_lt lL)) | (refine listT (by k_asm) (by k_asm) (by lcg_src) (by first | omega | simp) ?_; intro DP cP h' F' N' lP)))) | ((with_reducible show wpAny _ _ (call (Value.builtin "len") [_]) _ _ _); (k_dflt (refine len_tupL (by k_asm) (by lcg_src) (by with_reducible assumption) ?_))) | (((with_reducible show wpAny _ _ (subscriptTail _ _ (Value.ref _) (Value.int 0 _)) _ _ _); k_dflt (refine item_at0 (by k_asm) (by lcg_src) ?_))) | (((with_reducible show wpAny _ _ (compareOp CmpOp.Eq (Value.str hxH _) (Value.str (Str.ofString "box") _)) _ _ _); k_dflt (refine eq_hdB hO9 (by ktr_units) ?_))) | ((with_reducible show wpAny _ _ (spliced (backTo _ (starEach (_ :: _) _))) _ _ _); (k_dflt (refine spl_g (by rfl) (by first | exact rfl | assumption) (by k_asm) (by rfl) ?_))) | walk1 | (dsimp only; walk1) | (leave1; walk_say "STEP leave1"; try dsimp only) | fail "no step"))
          exact ⟨_, _, _, _, _, rfl, rfl, by k_asm, by k_asm, by kaf_suf, .idx hI' rfl⟩
      case sB =>
        intro DS h' tk' sts cS F' N' lS hSO
        (repeat' (first | (k_unfold; (try dsimp only)) | (k_end; wrow_close) | ((with_reducible show wpAny _ _ (eval (PySem.Expr.ListComp _ _ _ _) _) _ _ _); (k_dflt (refine LCg.ListComp_U (F₀ := by k_asm) (by with_unfolding_all rfl) (by decide) (by rfl) (by decide) (by rfl) ?_))) | ((with_reducible show wpAny _ _ (storeName _ _ _) _ _ _); (k_dflt (refine store_o (by k_asm) (by k_asm) ?_ (by first | exact rfl | assumption) (by rfl)); intro hw7 mw7 Fw7 Nw7)) | ((with_reducible show wpAny _ _ (execs (_ :: _) _) _ _ _); ((with_reducible refine Mine.gen_tok ?_); intro tk; (with_reducible refine wpAny_execs_cons ?_); (try dsimp only))) | walk1 | (dsimp only; walk1) | (leave1; walk_say "STEP leave1"; try dsimp only) | fail "no step"))
        unfold Hold
        have N0 := napp_nil (by k_asm)
        refine LCg.CompSrc.ledger (its := sts.toArray) (by rfl) (by k_asm) N0 (by lcg_src) (by rw [sizeLine_eq, List.size_toArray, hSO.1]; omega) ?_
        intro g2
        refine restU_ind (n := sts.toArray.size) (Inv := fun i zs tl => tl = [] ∧ zs = itsH.take i) ?hS ?turn2 ?fin2 _ 0 [] [] (Nat.zero_add _) ⟨rfl, rfl⟩ lt_nil
        case hS => exact fun tl => .inr ⟨_, List.mem_append_left _ (by lcg_src), rfl, _, rfl⟩
        case turn2 =>
          intro i zs tl v I oI C oC D m2 h tk Q1 E1 hP hi hInv hC hx1 F' N' ret1
          obtain ⟨kS9, xS9, hst9, hx9, hi9⟩ := hSO.2 i v (by simpa using hP)
          obtain ⟨rfl, rfl⟩ := hInv
          (repeat' (first | (k_unfold; (try dsimp only)) | (k_end; wrow_close) | (((with_reducible show wpAny _ _ (call (Value.ref 112) [_, _]) _ _ _); k_dflt (refine inner_vs (by k_asm) (by k_asm) (by k_asm) (by k_asm) (by k_asm) (by first | exact rfl | assumption) hVS9 (by intro q hq; lcg_src) hOK9 (by intro q hq; lcg_src) (by with_reducible assumption) (by with_reducible assumption) (by ktr_room) (by ktr_units) ?_); intro h' tk' F' N')) | ((with_reducible show wpAny _ _ (callWith _ (Value.ref _) _ _ _) _ _ _); (k_here; k_dflt (first | refine' callWith_K ?k1 ?k2 ?_; (case k1 => k_asm); (case k2 => k_is); k_whole | refine' callWith_K0 ?k1 ?k2 ?_; (case k1 => k_in); (case k2 => k_is); k_whole); (try dsimp only [List.nil_append, List.append_nil]))) | walk1 | (dsimp only; walk1) | (leave1; walk_say "STEP leave1"; try dsimp only) | fail "no step"))
          exact ret1 _ [] _ _ (by k_asm) (by k_asm) lt_nil ⟨rfl, by rw [List.take_succ, hi9]; rfl⟩
        case fin2 =>
          intro zs tl hInv ht9 D2 h tk F' N' off8
          obtain ⟨rfl, hz8⟩ := hInv
          rw [List.take_of_length_le (by rw [List.size_toArray, hSO.1]; exact Nat.le_refl _)] at hz8
          subst zs
          (repeat' (first | (k_unfold; (try dsimp only)) | (k_end; wrow_close) | ((with_reducible show wpAny _ _ (call (Value.type "tuple") [_]) _ _ _); (k_dflt (refine tup_of (by k_asm) (by k_asm) (by lcg_src) (by omega) ?_); intro DT h' F' N' lT)) | ((with_reducible show wpAny _ _ (compareOp CmpOp.NotEq (Value.ref _) (Value.ref _)) _ _ _); (k_dflt (first | (have _ := hstop9; refine hold ?_) | refine ne_two (by k_asm) (by k_asm) (by k_asm) (by lcg_src) (by lcg_src) (by decide +kernel) (by ktr_units) ?_ | refine ne_sh (by k_asm) (by k_asm) (by k_asm) (Rd.mono rT (by intro q hq; first | lcg_src | (rcases List.mem_append.mp hq with hq | hq; lcg_src; (repeat (rcases List.mem_cons.mp hq with rfl | hq; lcg_src)); lcg_src))) (fT (by lcg_src) (by intro q hq; (repeat (rcases List.mem_cons.mp hq with rfl | hq; lcg_src)); first | lcg_src | (rcases List.mem_append.mp hq with hq | hq <;> lcg_src))) cT eT (by ktr_units) ?_ | refine ne_vs (by k_asm) (by k_asm) (by k_asm) (VS.mono hVS (by intro q hq; rcases List.mem_cons.mp hq with rfl | hq <;> lcg_src)) (by first | exact VS.box (by lcg_src) | exact VS.flds (by lcg_src) (by lcg_src) | exact VS.vrnt (by lcg_src) (by lcg_src)) hOK (by intro q hq; lcg_src) (by ktr_units) ?_ | refine ne_its (by k_asm) (by k_asm) (by k_asm) (by lcg_src) (by lcg_src) (by with_reducible assumption) (by intro q hq; lcg_src) (by ktr_units) ?_ | refine ne_lists (by k_asm) (by k_asm) (by k_asm) (by lcg_src) (by lcg_src) hrg (by intro q hq; lcg_src) (by first | exact Rd.tuple (by lcg_src) rfl rfl (RdAll.mono ri8 (by intro q hq; lcg_src)) | exact Rd.tuple (by lcg_src) rfl rfl (.cons .int (.cons (Rd.tuple (by lcg_src) rfl rfl (RdAll.mono ri8 (by intro q hq; lcg_src))) .nil)) | exact Rd.tuple (by lcg_src) rfl rfl (.cons .str (.cons (Rd.mono ri8 (by intro q hq; lcg_src)) .nil))) (by first | exact Rd.tuple (by lcg_src) rfl rfl (RdAll.mono ri8 (by intro q hq; lcg_src)) | exact Rd.tuple (by lcg_src) rfl rfl (.cons .int (.cons (Rd.tuple (by lcg_src) rfl rfl (RdAll.mono ri8 (by intro q hq; lcg_src))) .nil)) | exact Rd.tuple (by lcg_src) rfl rfl (.cons .str (.cons (Rd.mono ri8 (by intro q hq; lcg_src)) .nil))) cD8 dD8 (by ktr_units) ?_))) | walk1 | (dsimp only; walk1) | (leave1; walk_say "STEP leave1"; try dsimp only) | fail "no step"))
          unfold Hold
          k_dflt (refine ne_its (by k_asm) (by k_asm) (by k_asm) (by lcg_src) (by lcg_src) HS9.rgs (by intro q hq; lcg_src) (by ktr_units) ?_)
          (repeat' (first | (k_unfold; (try dsimp only)) | (k_end; wrow_close) | (((with_reducible show wpAny _ _ (call (Value.ref 126) [_, _]) _ _ _); refine hold ?_)) | ((with_reducible show wpAny _ _ (call (Value.type "list") [_]) _ _ _); (k_dflt (first | (refine' kll_range ?hh ?F ?N ?hr ?a ?b ?c ?_; (case F => k_asm); (case N => k_asm); (case hr => with_reducible assumption); (case a => exact (rg_small hlt4).1); (case b => exact (rg_small hlt4).2.1); (case c => with_reducible exact Nat.le_trans (Nat.le_of_lt hlt4) (by decide)); (case hh => rfl); intro DL usL cL h' tk' F' N' lL hI'; (try k_lt lL)) | (refine listT (by k_asm) (by k_asm) (by lcg_src) (by first | omega | simp) ?_; intro DP cP h' F' N' lP)))) | ((with_reducible show wpAny _ _ (binaryOp Operator.Add (Value.ref _) (Value.ref _)) _ _ _); (k_dflt (first | (refine add_any (xs := [_]) (by k_asm) (by k_asm) (by lcg_src) (by lcg_src) (by simp only [List.length_cons, List.length_nil]; omega) ?_; intro TA nA h' F' N') | (refine add_ls (vs := ys) (by k_asm) (by k_asm) (by lcg_src) (by lcg_src) (by first | omega | (simp only [List.length_cons, List.length_nil]; omega)) ?_; intro TA h' F' N' lA)))) | ((with_reducible show wpAny _ _ (spliced (backTo _ (starEach (_ :: _) _))) _ _ _); (k_dflt (refine spl_g (by rfl) (by first | exact rfl | assumption) (by k_asm) (by rfl) ?_))) | ((with_reducible show wpAny _ _ (callWith _ (Value.ref _) _ _ _) _ _ _); (k_here; k_dflt (first | refine' callWith_K ?k1 ?k2 ?_; (case k1 => k_asm); (case k2 => k_is); k_whole | refine' callWith_K0 ?k1 ?k2 ?_; (case k1 => k_in); (case k2 => k_is); k_whole); (try dsimp only [List.nil_append, List.append_nil]))) | ((with_reducible show wpAny _ _ (execs [] _) _ _ _); ((with_reducible refine Mine.gen_tok ?_); intro tk; (with_reducible refine wpAny_execs_nil ?_); (try dsimp only))) | ((with_reducible show wpAny _ _ (execs (_ :: _) _) _ _ _); ((with_reducible refine Mine.gen_tok ?_); intro tk; (with_reducible refine wpAny_execs_cons ?_); (try dsimp only))) | walk1 | (dsimp only; walk1) | (leave1; walk_say "STEP leave1"; try dsimp only) | fail "no step"))
          unfold Hold
          k_dflt (refine gath_hs (as := ys) (its := itsH) (by k_asm) (by k_asm) (by k_asm) (by k_asm) (by k_asm) (by first | exact rfl | assumption) HS9 (hVS9.mono (by intro q hq; lcg_src)) (by lcg_src) (by omega) (by ktr_room) (by ktr_units) ?_)
          intro RG cG tlG PG dG h' tk' F' N' lG r1 r2 c1 d1
          (repeat' (first | (k_unfold; (try dsimp only)) | (k_end; wrow_close) | ((with_reducible show wpAny _ _ (binaryOp Operator.Add (Value.ref _) (Value.ref _)) _ _ _); (k_dflt (first | (refine add_any (xs := [_]) (by k_asm) (by k_asm) (by lcg_src) (by lcg_src) (by simp only [List.length_cons, List.length_nil]; omega) ?_; intro TA nA h' F' N') | (refine add_ls (vs := ys) (by k_asm) (by k_asm) (by lcg_src) (by lcg_src) (by first | omega | (simp only [List.length_cons, List.length_nil]; omega)) ?_; intro TA h' F' N' lA)))) | ((with_reducible show wpAny _ _ (compareOp CmpOp.NotEq (Value.ref _) (Value.ref _)) _ _ _); (k_dflt (first | (have _ := hstop9; refine hold ?_) | refine ne_two (by k_asm) (by k_asm) (by k_asm) (by lcg_src) (by lcg_src) (by decide +kernel) (by ktr_units) ?_ | refine ne_sh (by k_asm) (by k_asm) (by k_asm) (Rd.mono rT (by intro q hq; first | lcg_src | (rcases List.mem_append.mp hq with hq | hq; lcg_src; (repeat (rcases List.mem_cons.mp hq with rfl | hq; lcg_src)); lcg_src))) (fT (by lcg_src) (by intro q hq; (repeat (rcases List.mem_cons.mp hq with rfl | hq; lcg_src)); first | lcg_src | (rcases List.mem_append.mp hq with hq | hq <;> lcg_src))) cT eT (by ktr_units) ?_ | refine ne_vs (by k_asm) (by k_asm) (by k_asm) (VS.mono hVS (by intro q hq; rcases List.mem_cons.mp hq with rfl | hq <;> lcg_src)) (by first | exact VS.box (by lcg_src) | exact VS.flds (by lcg_src) (by lcg_src) | exact VS.vrnt (by lcg_src) (by lcg_src)) hOK (by intro q hq; lcg_src) (by ktr_units) ?_ | refine ne_its (by k_asm) (by k_asm) (by k_asm) (by lcg_src) (by lcg_src) (by with_reducible assumption) (by intro q hq; lcg_src) (by ktr_units) ?_ | refine ne_lists (by k_asm) (by k_asm) (by k_asm) (by lcg_src) (by lcg_src) hrg (by intro q hq; lcg_src) (by first | exact Rd.tuple (by lcg_src) rfl rfl (RdAll.mono ri8 (by intro q hq; lcg_src)) | exact Rd.tuple (by lcg_src) rfl rfl (.cons .int (.cons (Rd.tuple (by lcg_src) rfl rfl (RdAll.mono ri8 (by intro q hq; lcg_src))) .nil)) | exact Rd.tuple (by lcg_src) rfl rfl (.cons .str (.cons (Rd.mono ri8 (by intro q hq; lcg_src)) .nil))) (by first | exact Rd.tuple (by lcg_src) rfl rfl (RdAll.mono ri8 (by intro q hq; lcg_src)) | exact Rd.tuple (by lcg_src) rfl rfl (.cons .int (.cons (Rd.tuple (by lcg_src) rfl rfl (RdAll.mono ri8 (by intro q hq; lcg_src))) .nil)) | exact Rd.tuple (by lcg_src) rfl rfl (.cons .str (.cons (Rd.mono ri8 (by intro q hq; lcg_src)) .nil))) cD8 dD8 (by ktr_units) ?_))) | ((with_reducible show wpAny _ _ (eval (PySem.Expr.List _ _) _) _ _ _); (k_dflt (refine list_svs (by rfl) (by first | exact rfl | assumption) (by k_asm) (by k_asm) (by rfl) (by size_fits) ?_); intro Dw7 hw7 ow7 Fw7 Nw7 lw7)) | walk1 | (dsimp only; walk1) | (leave1; walk_say "STEP leave1"; try dsimp only) | fail "no step"))
          unfold Hold
          k_dflt (refine ne_lists (ys := ys) (by k_asm) (by k_asm) (by k_asm) (by lcg_src) (by lcg_src) hrg9 (by intro q hq; lcg_src) (r1.mono (by intro q hq; rcases List.mem_append.mp hq with hq | hq <;> lcg_src)) (r2.mono (by intro q hq; lcg_src)) c1 d1 (by ktr_units) ?_)
          (repeat' (first | (k_unfold; (try dsimp only)) | (k_end; wrow_close) | (((with_reducible show wpAny _ _ (call (Value.ref 126) [_, _]) _ _ _); refine hold ?_)) | ((with_reducible show wpAny _ _ (binaryOp Operator.Add (Value.ref _) (Value.ref _)) _ _ _); (k_dflt (first | (refine add_any (xs := [_]) (by k_asm) (by k_asm) (by lcg_src) (by lcg_src) (by simp only [List.length_cons, List.length_nil]; omega) ?_; intro TA nA h' F' N') | (refine add_ls (vs := ys) (by k_asm) (by k_asm) (by lcg_src) (by lcg_src) (by first | omega | (simp only [List.length_cons, List.length_nil]; omega)) ?_; intro TA h' F' N' lA)))) | ((with_reducible show wpAny _ _ (newTuple _) _ _ _); (k_dflt (refine tuple_o (by k_asm) (by k_asm) (by size_fits) ?_); intro Dw7 hw7 ow7 Fw7 Nw7 lw7)) | ((with_reducible show wpAny _ _ (eval (PySem.Expr.List _ _) _) _ _ _); (k_dflt (refine list_svs (by rfl) (by first | exact rfl | assumption) (by k_asm) (by k_asm) (by rfl) (by size_fits) ?_); intro Dw7 hw7 ow7 Fw7 Nw7 lw7)) | ((with_reducible show wpAny _ _ (eval (PySem.Expr.Tuple _ _ _) _) _ _ _); (k_dflt (refine tuple_svs (by rfl) (by first | exact rfl | assumption) (by k_asm) (by k_asm) (by rfl) (by size_fits) ?_); intro Dw7 hw7 ow7 Fw7 Nw7 lw7)) | ((with_reducible show wpAny _ _ (callWith _ (Value.ref _) _ _ _) _ _ _); (k_here; k_dflt (first | refine' callWith_K ?k1 ?k2 ?_; (case k1 => k_asm); (case k2 => k_is); k_whole | refine' callWith_K0 ?k1 ?k2 ?_; (case k1 => k_in); (case k2 => k_is); k_whole); (try dsimp only [List.nil_append, List.append_nil]))) | ((with_reducible show wpAny _ _ (execs [] _) _ _ _); ((with_reducible refine Mine.gen_tok ?_); intro tk; (with_reducible refine wpAny_execs_nil ?_); (try dsimp only))) | ((with_reducible show wpAny _ _ (execs (_ :: _) _) _ _ _); ((with_reducible refine Mine.gen_tok ?_); intro tk; (with_reducible refine wpAny_execs_cons ?_); (try dsimp only))) | walk1 | (dsimp only; walk1) | (leave1; walk_say "STEP leave1"; try dsimp only) | fail "no step"))
          unfold Hold
          k_dflt (refine gath_box (as := ys) (by k_asm) (by k_asm) (by k_asm) (by k_asm) (by k_asm) (by first | exact rfl | assumption) (by lcg_src) (.inr rfl) (by lcg_src) (by omega) (by ktr_room) (by ktr_units) ?_)
          intro RG9 PG9 cG9 kG9 tG9 h' tk' F' N' lG8 lG9
          (repeat' (first | (k_unfold; (try dsimp only)) | (k_end; wrow_close) | ((with_reducible show wpAny _ _ (compareOp CmpOp.Eq (Value.ref _) (Value.ref _)) _ _ _); (k_dflt (refine eq_lists (dv := .tuple [.str (Str.ofString "ref"), .int 9]) (by k_asm) (by k_asm) (by k_asm) (by lcg_src) (by lcg_src) hrg9 (by intro q hq; lcg_src) (Rd.tuple (by lcg_src) rfl rfl (.cons .str (.cons .int .nil))) (Rd.tuple (by lcg_src) rfl rfl (.cons .str (.cons .int .nil))) (by decide +kernel) (by decide) (by ktr_units) ?_))) | ((with_reducible show wpAny _ _ (binaryOp Operator.Add (Value.ref _) (Value.ref _)) _ _ _); (k_dflt (first | (refine add_any (xs := [_]) (by k_asm) (by k_asm) (by lcg_src) (by lcg_src) (by simp only [List.length_cons, List.length_nil]; omega) ?_; intro TA nA h' F' N') | (refine add_ls (vs := ys) (by k_asm) (by k_asm) (by lcg_src) (by lcg_src) (by first | omega | (simp only [List.length_cons, List.length_nil]; omega)) ?_; intro TA h' F' N' lA)))) | ((with_reducible show wpAny _ _ (newList _) _ _ _); (k_dflt (refine list_o (by k_asm) (by k_asm) (by size_fits) ?_); intro Dw7 hw7 ow7 Fw7 Nw7 lw7)) | ((with_reducible show wpAny _ _ (eval (PySem.Expr.Tuple _ _ _) _) _ _ _); (k_dflt (refine tuple_svs (by rfl) (by first | exact rfl | assumption) (by k_asm) (by k_asm) (by rfl) (by size_fits) ?_); intro Dw7 hw7 ow7 Fw7 Nw7 lw7)) | walk1 | (dsimp only; walk1) | (leave1; walk_say "STEP leave1"; try dsimp only) | fail "no step"))
          k_dflt (refine leaveS0_ (by k_asm) (by k_asm) (KtsTurn.trans (by with_reducible assumption) (by with_reducible assumption)) fun kF kN => ?_)
          have key : ∀ q ∈ (src, o1) :: (265, tabObj psB) :: (94, tabObj psT) :: ((tlC ++ (tlA ++ tlT)) ++ rst), q ∈ tl9 := fun q hq => hs9 q (by
            simp only [List.mem_cons, List.mem_append] at hq
            rcases hq with rfl | rfl | rfl | (hq | hq | hq) | hq <;> lcg_src)
          have hC1 := (hstB (tlC ++ (tlA ++ rst)) oc2 vs2 t2 hmB e1 e2)
          have sub9 : ∀ q ∈ tlC ++ (tlA ++ rst), q ∈ (tlC ++ (tlA ++ tlT)) ++ rst := fun q hq => by
            simp only [List.mem_append] at hq
            rcases hq with hq | hq | hq <;> lcg_src
          refine ret o1 psB psT (tlC ++ (tlA ++ tlT)) _ _ (news_sub kN fun q hq => (by have z := key q hq; lcg_src)) ho1 ?_ ?_ ?_ ?_ kF
          · exact TabOk.mono (hC1.2 221 17 qLam (by decide) (TabOk.mono hAA.1 fun q hq => List.mem_append_right _ hq)) sub9
          · exact TabOk.mono hC1.1 sub9
          · exact TabOk.mono hTabT fun q hq => (by rcases List.mem_append.mp hq with hq | hq <;> lcg_src)
          · intro q hq
            have lt : ∀ (l : List (Addr × Obj)), AllLt q.1 l → (∃ x : Obj, (src, x) ∈ l) → (∃ x : Obj, ((265 : Nat), x) ∈ l) → (∃ x : Obj, ((94 : Nat), x) ∈ l) → (∀ z ∈ rst, z ∈ l) → AllNe q.1 ((src, o) :: (265, tabObj ps2) :: (94, tabObj ps) :: rst) := fun l h ⟨_, a⟩ ⟨_, b⟩ ⟨_, c⟩ d => allNe_of fun z hz => (by
              rcases List.mem_cons.mp hz with rfl | hz
              · exact Nat.ne_of_gt (allLt_mem h a)
              · rcases List.mem_cons.mp hz with rfl | hz
                · exact Nat.ne_of_gt (allLt_mem h b)
                · rcases List.mem_cons.mp hz with rfl | hz
                  · exact Nat.ne_of_gt (allLt_mem h c)
                  · exact Nat.ne_of_gt (allLt_mem h (d _ hz)))
            rcases List.mem_append.mp hq with hq | hq
            · refine lt _ (hltB q hq) ?_ ?_ ?_ ?_ <;> first | exact ⟨_, by lcg_src⟩ | (intro z hz; lcg_src)
            · rcases List.mem_append.mp hq with hq | hq
              · refine lt _ (hltA q hq) ?_ ?_ ?_ ?_ <;> first | exact ⟨_, by lcg_src⟩ | (intro z hz; lcg_src)
              · have hn := hneT q hq
                refine allNe_of fun z hz => ?_
                rcases List.mem_cons.mp hz with rfl | hz
                · exact Ne.symm (allNe_get hn (src, oH) (by lcg_src))
                · rcases List.mem_cons.mp hz with rfl | hz
                  · exact Ne.symm (allNe_get hn (265, _) (by lcg_src))
                  · rcases List.mem_cons.mp hz with rfl | hz
                    · exact Ne.symm (allNe_get hn (94, _) (by lcg_src))
                    · exact Ne.symm (allNe_get hn z (by lcg_src))
end Mine
end
section
namespace Mine
open PySem.Spec PySem.Calls
local macro_rules | `(tactic| k_mem) => `(tactic| lcg_src)
section
variable {prog : Program} {w : World} {A : Around} {E : Value → Shared → Prop} {s : Shared} {h₀ : Heap} {L : Addr} {m : Str → Option Value}
theorem len_scr {l : Addr} {vs : List Value} {ns : List Int} {Q : Value → Shared → Prop} (F : Fr h₀ L s.heap m) (hl : h₀.IsList l vs.toArray) (hi : IntsAre vs ns) (hz : ns.length ≤ 63) (h : Q (.int (ns.length : Int) (s.toks + 1)) { s with toks := s.toks + 1 + 1 }) : wpAny (model prog w) A (call (.builtin "len") [.ref l]) Q E s := by
  refine len_list (items := vs.toArray) (hl.at fun o e => F.keep l o e) (by rw [List.size_toArray, hi.length]; omega) ?_
  rw [List.size_toArray, hi.length]
  exact h
theorem item_scr {value slice : PySem.Expr} {l : Addr} {vs : List Value} {ns : List Int} {k : Int} {u : Tok} {Q : Value → Shared → Prop} (F : Fr h₀ L s.heap m) (hl : h₀.IsList l vs.toArray) (hi : IntsAre vs ns) (hz : ns.length ≤ 63) (h0 : 0 ≤ k) (h1 : k < (ns.length : Int)) (h : ∀ n t, n ∈ ns → Q (.int n t) s)
    (hs : subscripted slice false (.ref l) (.int k u) = operate [.ref l, .int k u] (getItem (.ref l) (.int k u)) := by with_unfolding_all rfl) :
    wpAny (model prog w) A (subscriptTail value slice (.ref l) (.int k u)) Q E s := by
  obtain ⟨j, rfl⟩ := Int.eq_ofNat_of_zero_le h0
  have hj : j < ns.length := by omega
  obtain ⟨t, hx⟩ := hi.get j ns[j] (List.getElem?_eq_getElem hj)
  have hl' : s.heap.IsList l vs.toArray := hl.at fun o e => F.keep l o e
  exact tail_any hl'.typeIs slot_list_getitem.lookup (wpAny_getItem_list hl' h0 (by omega) (by simpa using hx) (h _ t (List.getElem_mem hj))) hs
noncomputable def CellR (s : Shared) (h₀ : Heap) (L : Addr) (m : Str → Option Value) (n : List (Addr × Obj)) (ns : List Int) (f : Flow) (s' : Shared) : Prop :=
  f = .next ∧ ∃ c t h' tk', s' = { s with heap := h', toks := tk' } ∧ Fr h₀ L h' (fun y => if y = Str.ofString "cell" then some (.int c t) else m y) ∧ News h₀ L h' n ∧ (c = 0 ∨ c ∈ ns)
theorem cell_cut {M : Model} {A : Around} {t : Sem Flow} {Q : Flow → Shared → Prop} {E : Value → Shared → Prop} {s : Shared} {h₀ : Heap} {L : Addr} {m : Str → Option Value} {n : List (Addr × Obj)} (ns : List Int) (_ : Fr h₀ L s.heap m) (_ : News h₀ L s.heap n) (h : wpAny M A t (CellR s h₀ L m n ns) E s)
    (k : ∀ c t h' tk', Fr h₀ L h' (fun y => if y = Str.ofString "cell" then some (.int c t) else m y) → News h₀ L h' n → (c = 0 ∨ c ∈ ns) → Q .next { s with heap := h', toks := tk' }) : wpAny M A t Q E s :=
  wpAny_mono h (fun f s' z => by obtain ⟨rfl, c, t, h', tk', rfl, a, b, d⟩ := z; exact k c t h' tk' a b d) fun _ _ z => z
end
set_option maxRecDepth 100000 in
set_option maxHeartbeats 8000000 in
theorem pool_ok {prog : Program} {w : World} {p : Program} {loose : List Str} {mean : ExcName → Option Value} {mg mb : Str → Option Value} {dp un : Nat} {gd : Option (List Code)} {cn : Str} {cs : Scope} {a : Addr} {ccd : Value} {cl : List (Str × Addr)} {outer : List Env} {A₀ : Around} {base h₀ : Heap} {L : Addr} {m : Str → Option Value} {s : Shared} {Q E : Value → Shared → Prop} {news : List (Addr × Obj)}
    (B : Below A₀ base outer h₀) (F : Fr h₀ L s.heap m) (X : (Mine.kmk.heap_1 w.params).In h₀) (N : News h₀ L s.heap news) (T : Top p loose mean mg mb h₀) (hk : cs.kind = .function) {l : Addr} {vs : List Value} {ns : List Int} {k : Int} {tq : Tok} (hl : h₀.IsList l vs.toArray) (hi : IntsAre vs ns) (hk0 : 0 ≤ k) (hk1 : k ≤ 1) (hz : ns.length ≤ 63) (hdp : dp + 2 < recursionLimit) (hun : un + 80 < cLine)
    (ret : ∀ D o h' tk', Fr h₀ L h' m → News h₀ L h' ((D, o) :: news) → AllLt D news → SrcOk o → Q (.ref D) { s with heap := h', toks := tk' }) :
    wpAny (model prog w) (ktrTop dp un gd cn cs L a ccd cl outer) (call (.ref 204) [.ref l, .int k tq]) Q E s := by
  have hl2 : ∀ {g : Heap} {L : Addr} {m : Str → Option Value}, Fr h₀ L g m → g.IsList l vs.toArray := fun F => hl.at fun o e => F.keep l o e
  refine wpAny_call ?_
  k_dflt ktr_enter
  (repeat' (first | (k_unfold; (try dsimp only)) | (k_end; wrow_close) | ((with_reducible show wpAny _ _ (exec (Stmt.If _ _ _ _) _) _ _ _); refine hold ?_) | ((with_reducible show wpAny _ _ (storeName _ _ _) _ _ _); (k_dflt (refine store_o (by k_asm) (by k_asm) ?_ (by first | exact rfl | assumption) (by rfl)); intro hw7 mw7 Fw7 Nw7)) | ((with_reducible show wpAny _ _ (execs (_ :: _) _) _ _ _); ((with_reducible refine Mine.gen_tok ?_); intro tk; (with_reducible refine wpAny_execs_cons ?_); (try dsimp only))) | walk1 | (dsimp only; walk1) | (leave1; walk_say "STEP leave1"; try dsimp only) | fail "no step"))
  unfold Hold
  refine cell_cut ns (by k_asm) (by k_asm) ?c1 ?c2
  case c1 =>
    (repeat' (first | (k_unfold; (try dsimp only)) | (k_end; wrow_close) | ((with_reducible show wpAny _ _ (call (Value.builtin "len") [_]) _ _ _); (k_dflt (refine len_scr (by k_asm) (hl2 (by with_reducible assumption)) hi hz ?_))) | ((with_reducible show wpAny _ _ (subscriptTail (PySem.Expr.Name _ _) (PySem.Expr.Name _ _) (Value.ref _) (Value.int _ _)) _ _ _); (k_dflt (refine item_scr (by k_asm) (hl2 (by with_reducible assumption)) hi hz hk0 (by omega) ?_); intro nI tI hI)) | ((with_reducible show wpAny _ _ (storeName _ _ _) _ _ _); (k_dflt (refine store_o (by k_asm) (by k_asm) ?_ (by first | exact rfl | assumption) (by rfl)); intro hw7 mw7 Fw7 Nw7)) | ((with_reducible show wpAny _ _ (eval (PySem.Expr.Subscript _ _ _) _) _ _ _); (k_dflt (refine sub_sv (by rfl) (by first | exact rfl | assumption) (by k_asm) (by rfl) (by rfl) ?_))) | ((with_reducible show wpAny _ _ (spliced (backTo _ (starEach (_ :: _) _))) _ _ _); (k_dflt (refine spl_g (by rfl) (by first | exact rfl | assumption) (by k_asm) (by rfl) ?_))) | ((with_reducible show wpAny _ _ (execs [] _) _ _ _); ((with_reducible refine Mine.gen_tok ?_); intro tk; (with_reducible refine wpAny_execs_nil ?_); (try dsimp only))) | ((with_reducible show wpAny _ _ (execs (_ :: _) _) _ _ _); ((with_reducible refine Mine.gen_tok ?_); intro tk; (with_reducible refine wpAny_execs_cons ?_); (try dsimp only))) | walk1 | (dsimp only; walk1) | (leave1; walk_say "STEP leave1"; try dsimp only) | fail "no step"))
    all_goals first
      | exact ⟨rfl, _, _, _, _, rfl, by k_asm, by k_asm, .inr (by assumption)⟩
      | exact ⟨rfl, _, _, _, _, rfl, fr_same (by k_asm) rfl, by k_asm, .inl rfl⟩
  case c2 =>
    intro c tc h' tk' F' N' hc
    (repeat' (first | (k_unfold; (try dsimp only)) | (k_end; wrow_close) | ((with_reducible show wpAny _ _ (storeName _ _ _) _ _ _); (k_dflt (refine store_o (by k_asm) (by k_asm) ?_ (by first | exact rfl | assumption) (by rfl)); intro hw7 mw7 Fw7 Nw7)) | ((with_reducible show wpAny _ _ (newList _) _ _ _); (k_dflt (refine list_o (by k_asm) (by k_asm) (by size_fits) ?_); intro Dw7 hw7 ow7 Fw7 Nw7 lw7)) | ((with_reducible show wpAny _ _ (eval (PySem.Expr.BinOp _ _ _ _) _) _ _ _); (k_dflt (refine bin_sv (by rfl) (by first | exact rfl | assumption) (by k_asm) (by rfl) (by rfl) ?_))) | ((with_reducible show wpAny _ _ (spliced (backTo _ (starEach (_ :: _) _))) _ _ _); (k_dflt (refine spl_g (by rfl) (by first | exact rfl | assumption) (by k_asm) (by rfl) ?_))) | ((with_reducible show wpAny _ _ (execs (_ :: _) _) _ _ _); ((with_reducible refine Mine.gen_tok ?_); intro tk; (with_reducible refine wpAny_execs_cons ?_); (try dsimp only))) | walk1 | (dsimp only; walk1) | (leave1; walk_say "STEP leave1"; try dsimp only) | fail "no step"))
    refine ret _ _ _ _ (by k_asm) (by k_asm) (by first | with_reducible assumption | kaf_suf) ⟨_, _, _, _, _, rfl, ?_, ?_, ?_⟩
    · exact Int.mul_nonneg (by split <;> omega) (by split <;> split <;> decide)
    · exact fm_nonneg (by decide)
    · exact Int.lt_trans (fm_lt (by decide)) (by decide)
end Mine
end
section
namespace Mine
open PySem.Spec PySem.Calls PyProof.Rows.LCg
noncomputable abbrev qStp : Str := (Str.ofString "_law_step_right" ++ Str.ofString ".<locals>.") ++ Str.ofString "<lambda>"
noncomputable def IsC (q : Str) (o : Obj) : Prop := ∃ vs t, o.data = .fields vs ∧ vs[1]? = some (.str q t)
theorem TabOk.sub {l c : Int} {q : Str} {ps : Array Value} {n n' : List (Addr × Obj)} (h : TabOk l c q ps n) (s : ∀ p ∈ n, IsC q p.2 → p ∈ n') : TabOk l c q ps n' :=
  ⟨h.1, fun pos a b => (h.2 pos a b).imp id fun ⟨c', oc, vs, t, x, y, z, u⟩ => ⟨c', oc, vs, t, x, s _ y ⟨vs, t, z, u⟩, z, u⟩⟩
theorem isC_tab {q : Str} {ps : Array Value} (ht : TriplesOk ps.toList) (h : IsC q (tabObj ps)) : False := by
  obtain ⟨vs, t, a, b⟩ := h
  cases a
  obtain ⟨l⟩ := ps
  have b' : l[1]? = some (.str q t) := by simpa using b
  revert ht
  unfold TriplesOk
  split
  · rename_i e; rw [show l = [] from e] at b'; simp at b'
  · rename_i e; rw [show l = _ from e] at b'; simp at b'
  · exact id
theorem isC_it {q : Str} {x l : Int} (h : IsC q (itR x l)) : False := by
  obtain ⟨vs, t, a, b⟩ := h
  cases a
  simp [rawInt] at b
structure LInv (n : List (Addr × Obj)) : Prop where
  ex : ∃ ot tlS ps2 ps psA tlH, n = (239, ot) :: (265, tabObj ps2) :: (94, tabObj ps) :: (270, tabObj psA) :: (tlS ++ tlH) ∧ TabS 174 25 qStp ot tlS ∧ TabOk 221 17 qLam ps2 tlH ∧ TabOk 223 17 qLam ps2 tlH ∧ TabOk 58 4 qPut ps tlH ∧ TriplesOk psA.toList ∧ ∀ p ∈ tlS ++ tlH, p.1 ≠ 239 ∧ p.1 ≠ 265 ∧ p.1 ≠ 94
structure LS (src I : Addr) (n : List (Addr × Obj)) : Prop where
  inv : LInv n
  s : ∀ p ∈ n, p.1 ≠ src
  i : ∀ p ∈ n, p.1 ≠ I
  si : src ≠ I
theorem TabS.tab {l c : Int} {q : Str} {ot : Obj} {tl : List (Addr × Obj)} (h : TabS l c q ot tl) : ∃ ps, ot = tabObj ps ∧ TriplesOk ps.toList := by
  cases h with
  | empty => exact ⟨_, rfl, by simp [TriplesOk]⟩
  | full a b => exact ⟨_, rfl, by simp [TriplesOk, rawInt]⟩
theorem step_turn {prog : Program} {w : World} {p : Program} {loose : List Str} {mean : ExcName → Option Value} {mg mb : Str → Option Value} {gd : Option (List Code)} {cn : Str} {cs : Scope} {a : Addr} {ccd : Value} {cl : List (Str × Addr)} {A₀ : Around} {base h₀ : Heap} {L : Addr} {m : Str → Option Value} {s : Shared} {Q E : Value → Shared → Prop}
    (B : Below A₀ base [] h₀) (F : Fr h₀ L s.heap m) (X : (Mine.kmk.heap_1 w.params).In h₀) (T : Top p loose mean mg mb h₀) (hk : cs.kind = .function) {src I : Addr} {o it : Obj} {n : List (Addr × Obj)} (ho : SrcOk o) (N : News h₀ L s.heap ((src, o) :: (I, it) :: n)) (S : LS src I n) (hCd : CodeHd base 241 239)
    (hg : s.gens = #[]) (hb : base.get? 0 = some (bnObj w.params)) (XB : (Mine.kmk.heap_1 w.params).In base) (TB : Top p loose mean mg mb base)
    (ret : ∀ o' n' h' tk', News h₀ L h' ((src, o') :: (I, it) :: n') → LS src I n' → SrcOk o' → Fr h₀ L h' m → Q (.bool true) { s with heap := h', toks := tk' }) :
    wpAny (model prog w) (ktrTop 302 7 gd cn cs L a ccd cl []) (call (.ref 242) [.ref src]) Q E s := by
  obtain ⟨⟨ot, tlS, ps2, ps, psA, tlH, rfl, hS, h1, h2, h3, h4, h5⟩, hs, hi, hsi⟩ := S
  have m0 : ((239 : Nat), ot) ∈ (239, ot) :: (265, tabObj ps2) :: (94, tabObj ps) :: (270, tabObj psA) :: (tlS ++ tlH) := by lcg_src
  refine step_ok (rst := (I, it) :: (265, tabObj ps2) :: (94, tabObj ps) :: (270, tabObj psA) :: tlH) B F X T hk ho (news_sub N fun q hq => ?_) ?_ ?_ (Ne.symm (hs _ m0)) (hs _ m0) hS hCd hg hb XB TB fun o' ot' tl' h' tk' N' hS' hfr ho' F' => ?_
  · simp only [List.mem_cons, List.mem_append] at hq ⊢
    rcases hq with hq | hq | hq | hq | hq | hq | hq | hq <;> simp only [hq, true_or, or_true]
  · intro q hq
    simp only [List.mem_cons, List.mem_append] at hq
    rcases hq with hq | hq | hq | hq | hq | hq
    · exact hs q (by lcg_src)
    · rw [hq]; exact Ne.symm hsi
    all_goals exact hs q (by first | (rw [hq]; lcg_src) | lcg_src)
  · intro q hq
    simp only [List.mem_cons, List.mem_append] at hq
    rcases hq with hq | hq | hq | hq | hq | hq
    · exact (h5 q (by lcg_src)).1
    · rw [hq]; exact Ne.symm (hi _ m0)
    · rw [hq]; show (265 : Nat) ≠ 239; decide
    · rw [hq]; show (94 : Nat) ≠ 239; decide
    · rw [hq]; show (270 : Nat) ≠ 239; decide
    · exact (h5 q (by lcg_src)).1
  · have key : ∀ q ∈ tl', q.1 ≠ src ∧ q.1 ≠ I ∧ q.1 ≠ 239 ∧ q.1 ≠ 265 ∧ q.1 ≠ 94 := fun q hq => by
      rcases hfr with rfl | z
      · exact ⟨hs q (by lcg_src), hi q (by lcg_src), h5 q (by lcg_src)⟩
      · have y := z q hq
        exact ⟨Nat.ne_of_gt (allLt_mem y (b := src) (by lcg_src)), Nat.ne_of_gt (allLt_mem y (b := I) (by lcg_src)), Nat.ne_of_gt (allLt_mem y (b := 239) (by lcg_src)), Nat.ne_of_gt (allLt_mem y (b := 265) (by lcg_src)), Nat.ne_of_gt (allLt_mem y (b := 94) (by lcg_src))⟩
    have hm : ∀ q ∈ (239, ot') :: (265, tabObj ps2) :: (94, tabObj ps) :: (270, tabObj psA) :: (tl' ++ tlH), (q.1 ≠ src ∧ q.1 ≠ I) := fun q hq => by
      simp only [List.mem_cons, List.mem_append] at hq
      rcases hq with hq | hq | hq | hq | hq | hq
      · rw [hq]; exact ⟨hs (239, ot) (by lcg_src), hi (239, ot) (by lcg_src)⟩
      · rw [hq]; exact ⟨hs (265, tabObj ps2) (by lcg_src), hi (265, tabObj ps2) (by lcg_src)⟩
      · rw [hq]; exact ⟨hs (94, tabObj ps) (by lcg_src), hi (94, tabObj ps) (by lcg_src)⟩
      · rw [hq]; exact ⟨hs (270, tabObj psA) (by lcg_src), hi (270, tabObj psA) (by lcg_src)⟩
      · exact ⟨(key q hq).1, (key q hq).2.1⟩
      · exact ⟨hs q (by lcg_src), hi q (by lcg_src)⟩
    refine ret o' ((239, ot') :: (265, tabObj ps2) :: (94, tabObj ps) :: (270, tabObj psA) :: (tl' ++ tlH)) h' tk' (news_sub N' fun q hq => ?_) ⟨⟨ot', tl', ps2, ps, psA, tlH, rfl, hS', h1, h2, h3, h4, fun q hq => ?_⟩, fun q hq => (hm q hq).1, fun q hq => (hm q hq).2, hsi⟩ ho' F'
    · simp only [List.mem_cons, List.mem_append] at hq ⊢
      rcases hq with hq | hq | hq | hq | hq | hq | hq | hq <;> simp only [hq, true_or, or_true]
    · rcases List.mem_append.mp hq with hq | hq
      · exact (key q hq).2.2
      · exact h5 q (by lcg_src)
theorem hand_turn {prog : Program} {w : World} {p : Program} {loose : List Str} {mean : ExcName → Option Value} {mg mb : Str → Option Value} {gd : Option (List Code)} {cn : Str} {cs : Scope} {a : Addr} {ccd : Value} {cl : List (Str × Addr)} {A₀ : Around} {base h₀ : Heap} {L : Addr} {m : Str → Option Value} {s : Shared} {Q E : Value → Shared → Prop}
    (B : Below A₀ base [] h₀) (F : Fr h₀ L s.heap m) (X : (Mine.kmk.heap_1 w.params).In h₀) (T : Top p loose mean mg mb h₀) (hk : cs.kind = .function) {src I wx : Addr} {o : Obj} {x lf : Int} {n tlW : List (Addr × Obj)} (ho : SrcOk o) (N : News h₀ L s.heap (((src, o) :: (I, itR x lf) :: n) ++ tlW)) (S : LS src I n) (lW : ∀ p ∈ tlW, AllLt p.1 ((src, o) :: (I, itR x lf) :: n)) (hW : WorldAt prog w tlW (.ref wx)) (hC1 : CodeHd base 267 265) (hC2 : CodeHd base 96 94)
    (hg : s.gens = #[]) (hb : base.get? 0 = some (bnObj w.params)) (XB : (Mine.kmk.heap_1 w.params).In base) (TB : Top p loose mean mg mb base)
    (ret : ∀ o' n' h' tk', News h₀ L h' ((src, o') :: (I, itR x lf) :: n') → (∀ p ∈ n', p.1 ≠ I) → LInv n' → Fr h₀ L h' m → Q (.bool true) { s with heap := h', toks := tk' }) :
    wpAny (model prog w) (ktrTop 302 7 gd cn cs L a ccd cl []) (call (.ref 268) [.ref src, .ref wx]) Q E s := by
  obtain ⟨⟨ot, tlS, ps2, ps, psA, tlH, rfl, hS, h1, h2, h3, h4, h5⟩, hs, hi, hsi⟩ := S
  have fW : ∀ b ob, (b, ob) ∈ (src, o) :: (I, itR x lf) :: (239, ot) :: (265, tabObj ps2) :: (94, tabObj ps) :: (270, tabObj psA) :: (tlS ++ tlH) → ∀ q ∈ tlW, q.1 ≠ b := fun b ob hm q hq => Nat.ne_of_gt (allLt_mem (lW q hq) hm)
  have i239 := hi (239, ot) (by lcg_src)
  have i265 := hi (265, tabObj ps2) (by lcg_src)
  have i94 := hi (94, tabObj ps) (by lcg_src)
  have s239 := hs (239, ot) (by lcg_src)
  have s265 := hs (265, tabObj ps2) (by lcg_src)
  have s94 := hs (94, tabObj ps) (by lcg_src)
  have s270 := hs (270, tabObj psA) (by lcg_src)
  have subH : ∀ q ∈ tlH, q ∈ (I, itR x lf) :: (239, ot) :: (270, tabObj psA) :: (tlS ++ (tlH ++ tlW)) := fun q hq => by lcg_src
  refine handed_right_ok (rst := (I, itR x lf) :: (239, ot) :: (270, tabObj psA) :: (tlS ++ (tlH ++ tlW))) B F X T hk ho (news_sub N fun q hq => ?_) ?_ ?_ ?_ (Ne.symm s265) (Ne.symm s94) (h1.mono subH) (h2.mono subH) (h3.mono subH) hC1 hC2 hg hb XB TB (hW.mono fun q hq => by lcg_src) fun o' ps2' ps' tl h' tk' N' ho' t1 t2 t3 hne F' => ?_
  · simp only [List.mem_cons, List.mem_append] at hq ⊢
    rcases hq with hq | hq | hq | hq | hq | hq | hq | hq | hq <;> simp only [hq, true_or, or_true]
  · intro q hq
    simp only [List.mem_cons, List.mem_append] at hq
    rcases hq with hq | hq | hq | hq | hq | hq
    · rw [hq]; exact Ne.symm hsi
    · rw [hq]; exact s239
    · rw [hq]; exact s270
    · exact hs q (by lcg_src)
    · exact hs q (by lcg_src)
    · exact fW src o (by lcg_src) q hq
  · intro q hq
    simp only [List.mem_cons, List.mem_append] at hq
    rcases hq with hq | hq | hq | hq | hq | hq
    · rw [hq]; exact Ne.symm i265
    · rw [hq]; show (239 : Nat) ≠ 265; decide
    · rw [hq]; show (270 : Nat) ≠ 265; decide
    · exact (h5 q (by lcg_src)).2.1
    · exact (h5 q (by lcg_src)).2.1
    · exact fW 265 (tabObj ps2) (by lcg_src) q hq
  · intro q hq
    simp only [List.mem_cons, List.mem_append] at hq
    rcases hq with hq | hq | hq | hq | hq | hq
    · rw [hq]; exact Ne.symm i94
    · rw [hq]; show (239 : Nat) ≠ 94; decide
    · rw [hq]; show (270 : Nat) ≠ 94; decide
    · exact (h5 q (by lcg_src)).2.2
    · exact (h5 q (by lcg_src)).2.2
    · exact fW 94 (tabObj ps) (by lcg_src) q hq
  · obtain ⟨po, rfl, hpo⟩ := hS.tab
    have drop : ∀ {q : Str} (z : Addr × Obj), z ∈ tl ++ (I, itR x lf) :: (239, tabObj po) :: (270, tabObj psA) :: (tlS ++ (tlH ++ tlW)) → IsC q z.2 → z ∈ tl ++ (tlS ++ (tlH ++ tlW)) := fun z hz hc => by
      simp only [List.mem_cons, List.mem_append] at hz ⊢
      rcases hz with hz | hz | hz | hz | hz
      · exact .inl hz
      · rw [hz] at hc; exact (isC_it hc).elim
      · rw [hz] at hc; exact (isC_tab hpo hc).elim
      · rw [hz] at hc; exact (isC_tab h4 hc).elim
      · exact .inr hz
    refine ret o' ((239, tabObj po) :: (265, tabObj ps2') :: (94, tabObj ps') :: (270, tabObj psA) :: (tlS ++ (tl ++ (tlS ++ (tlH ++ tlW))))) h' tk' (news_sub N' fun q hq => ?_) (fun q hq => ?_) ⟨⟨tabObj po, tlS, ps2', ps', psA, tl ++ (tlS ++ (tlH ++ tlW)), rfl, hS, t1.sub drop, t2.sub drop, t3.sub drop, h4, fun q hq => ?_⟩⟩ F'
    · simp only [List.mem_cons, List.mem_append] at hq ⊢
      rcases hq with hq | hq | hq | hq | hq | hq | hq | hq | hq | hq | hq <;> simp only [hq, true_or, or_true]
    · simp only [List.mem_cons, List.mem_append] at hq
      rcases hq with hq | hq | hq | hq | hq | hq | hq | hq | hq
      · rw [hq]; exact i239
      · rw [hq]; exact i265
      · rw [hq]; exact i94
      · rw [hq]; exact hi (270, tabObj psA) (by lcg_src)
      · exact hi q (by lcg_src)
      · exact Ne.symm (allNe_get (hne q hq) (I, itR x lf) (by lcg_src))
      · exact hi q (by lcg_src)
      · exact hi q (by lcg_src)
      · exact fW I (itR x lf) (by lcg_src) q hq
    · simp only [List.mem_append] at hq
      rcases hq with hq | hq | hq | hq | hq
      · exact h5 q (by lcg_src)
      · exact ⟨Ne.symm (allNe_get (hne q hq) (239, tabObj po) (by lcg_src)), Ne.symm (allNe_get (hne q hq) (265, tabObj ps2) (by lcg_src)), Ne.symm (allNe_get (hne q hq) (94, tabObj ps) (by lcg_src))⟩
      · exact h5 q (by lcg_src)
      · exact h5 q (by lcg_src)
      · exact ⟨fW 239 (tabObj po) (by lcg_src) q hq, fW 265 (tabObj ps2) (by lcg_src) q hq, fW 94 (tabObj ps) (by lcg_src) q hq⟩
theorem range_ind {prog : Program} {w : World} {A : Around} {E : Value → Shared → Prop} {h₀ : Heap} {env : Env} {body : List Stmt} {Q : Flow → Shared → Prop} {s : Shared} {I : Addr} {n : Nat} {m₀ : Str → Option Value} (Inv : List (Addr × Obj) → Prop)
    (turn : ∀ (i : Nat) a b news t h tk (Q' : Flow → Shared → Prop), i < n → Inv news → (∀ p ∈ news, p.1 ≠ I) → Fr h₀ env.locals h (fun y => if y = Str.ofString "k" then some (.int (0 + (i : Int)) t) else if y = Str.ofString "k" then a else if y = Str.ofString "source" then b else m₀ y) → News h₀ env.locals h ((I, itR (0 + ((i + 1 : Nat) : Int)) ((n : Int) - ((i + 1 : Nat) : Int))) :: news) →
      (∀ v u h' tk' news', Fr h₀ env.locals h' (fun y => if y = Str.ofString "source" then v else if y = Str.ofString "k" then u else if y = Str.ofString "k" then a else if y = Str.ofString "source" then b else m₀ y) → News h₀ env.locals h' ((I, itR (0 + ((i + 1 : Nat) : Int)) ((n : Int) - ((i + 1 : Nat) : Int))) :: news') → (∀ p ∈ news', p.1 ≠ I) → Inv news' → Q' .next { s with heap := h', toks := tk' }) →
      wpAny (model prog w) A (execs body env) Q' E { s with heap := h, toks := tk })
    (done : ∀ m news h tk, Inv news → Fr h₀ env.locals h m → News h₀ env.locals h news → Q .next { s with heap := h, toks := tk }) :
    ∀ k i a b news, i + k = n → Inv news → (∀ p ∈ news, p.1 ≠ I) → RangeRest prog w A E h₀ env (Str.ofString "k") body Q s I 0 n k i (fun y => if y = Str.ofString "k" then a else if y = Str.ofString "source" then b else m₀ y) news
  | 0, i, a, b, news, hk, hI, hne => fun h tk F N => done _ news h tk hI F N
  | k + 1, i, a, b, news, hk, hI, hne => fun t h tk F N => by
    refine turn i a b news t h tk _ (by omega) hI hne F N fun v u h' tk' news' F' N' hne' hI' => ?_
    have e : (fun y => if y = Str.ofString "source" then v else if y = Str.ofString "k" then u else if y = Str.ofString "k" then a else if y = Str.ofString "source" then b else m₀ y) = (fun y => if y = Str.ofString "k" then u else if y = Str.ofString "source" then v else m₀ y) := funext fun y => by
      by_cases h1 : y = Str.ofString "source"
      · have h2 : y ≠ Str.ofString "k" := by rw [h1]; decide
        simp only [h1, if_true]
        rw [if_neg (by rw [← h1]; exact h2)]
      · simp only [if_neg h1]
        by_cases h2 : y = Str.ofString "k"
        · simp only [if_pos h2]
        · simp only [if_neg h2]
    rw [e] at F'
    exact ⟨h', tk', _, news', rfl, F', N', hne', range_ind Inv turn done k (i + 1) u v news' (by omega) hI' hne'⟩
end Mine
end
section
namespace Mine
open PySem.Spec PySem.Calls PyProof.Rows.LCg
theorem turn_list {g g' : Heap} {l : Addr} {its : Array Value} (T : KtsTurn [] g g') (h : g.IsList l its) : g'.IsList l its :=
  let ⟨o, e, r⟩ := h; ⟨o, T.other _ _ e (by simp), r⟩
theorem range_at {M : Model} {A : Around} {k : Nat} {tk : Tok} {Q E : Value → Shared → Prop} {s : Shared} (h : ∀ n : Nat, n = 1 ∨ n = 2 → wpAny M A (call (.type "range") [.int (n : Int) tk]) Q E s) : wpAny M A (call (.type "range") [.int (if (if (k : Int) < 2 then (k : Int) else 2) > 1 then if (k : Int) < 2 then (k : Int) else 2 else 1) tk]) Q E s := by
  have e : (if (if (k : Int) < 2 then (k : Int) else 2) > 1 then if (k : Int) < 2 then (k : Int) else 2 else 1) = 1 ∨ (if (if (k : Int) < 2 then (k : Int) else 2) > 1 then if (k : Int) < 2 then (k : Int) else 2 else 1) = 2 := by
    split <;> split <;> omega
  rcases e with e | e
  · rw [e]; exact h 1 (.inl rfl)
  · rw [e]; exact h 2 (.inr rfl)
theorem fr_opt {h₀ h : Heap} {L : Addr} {m : Str → Option Value} {x : Str} {v : Option Value} (F : Fr h₀ L h m) (e : m x = v) : Fr h₀ L h (fun y => if y = x then v else m y) := by
  have q : (fun y => if y = x then v else m y) = m := funext fun y => by
    by_cases z : y = x
    · rw [if_pos z, z, e]
    · rw [if_neg z]
  rw [q]
  exact F
theorem turn_fr {g g' h : Heap} {L : Addr} {m : Str → Option Value} (T : KtsTurn [] g g') (F : Fr g' L h m) : Fr g L h m :=
  ⟨F.ns, fun b o e => F.keep b o (T.other b o e (by simp)), by rw [← T.size]; exact F.above⟩
theorem turn_news {g g' h : Heap} {L : Addr} {n : List (Addr × Obj)} (T : KtsTurn [] g g') (N : News g' L h n) : News g L h n := fun p hp =>
  ⟨(N p hp).1, (N p hp).2.1, by
    cases e : g.get? p.1 with
    | none => rfl
    | some o => have z := T.other _ _ e (by simp); rw [(N p hp).2.2] at z; cases z⟩
local macro_rules | `(tactic| k_mem) => `(tactic| lcg_src)
set_option maxRecDepth 100000 in
set_option maxHeartbeats 8000000 in
theorem law_holds : PySem.Challenge.rw_xm0595_01.Holds := by
  w_on
  refine holds_law said1 fun said => ?_
  refine holds_open (q := Mine.qv) (loose := Mine.qloose) (Xt := fun s => xlAt Mine.qv [] s && recOk [] s) (XP := XL Mine.qv []) (Yf := Hook.obs Mine.hk1) (Ya := Hook.val Mine.hk1) (YP := Hook.says Mine.hk1) (N := 3760) Mine.leftK (Hook.of Mine.hk1) (Hook.keeps Mine.hk1) (fun s e => xl_of s (Bool.and_eq_true_iff.mp e).1) XL.keeps (by rfl) (by rfl) (by rfl) (fun s e => recFacts_of (Bool.and_eq_true_iff.mp e).2) (by rfl) (by first | assumption | decide +kernel) (by decide +kernel) ⟨rfl, rfl, rfl, rfl, rfl, by decide +kernel⟩ ?hw ?hc
  case hw => w_witness2
  exact (by
    k_fill
    intro w s₀ s₁ mg mb G Y fa o pm cd doc dV kV ho hd hcd hD hmg hg args vals as hpre hlay hrd hwl hlo
    have KX := km_in_of Y.1
    have Y1 := Y.1
    have Y2 := Y.2
    km_tabs Y1
    have X := (Ground.X G).1
    have V := (Ground.X G).2
    refine Ground.open G ?_
    intro T B D TE TW
    try (refine guard_noD D (by decide +kernel) ?_; clear D)
    km_lay T hmg ho hd cd
    clear hmg
    wrow_args hpre hlay hrd hwl hlo
    all_goals (
      first | refine callC_kw (enter_call ?_) | refine enter_call ?_
      w_top on
      kn_posts
      w_call any ho hd hcd hD T F
      clear hd
      kn_ghosts F T
      k_drop
      skip)
    (repeat' (first | (k_unfold; (try dsimp only)) | (k_end; wrow_close) | ((with_reducible show wpAny _ _ (eval (PySem.Expr.Lambda _ _ _ _) _) _ _ _); refine hold ?_) | ((with_reducible show wpAny _ _ (newTuple _) _ _ _); (k_dflt (refine tuple_o (by k_asm) (by k_asm) (by size_fits) ?_); intro Dw7 hw7 ow7 Fw7 Nw7 lw7)) | ((with_reducible show wpAny _ _ (eval (PySem.Expr.Tuple _ _ _) _) _ _ _); (k_dflt (refine tuple_svs (by rfl) (by first | exact rfl | assumption) (by k_asm) (by k_asm) (by rfl) (by size_fits) ?_); intro Dw7 hw7 ow7 Fw7 Nw7 lw7)) | ((with_reducible show wpAny _ _ (callWith _ (Value.ref _) _ _ _) _ _ _); (k_here; k_dflt (first | refine' callWith_K ?k1 ?k2 ?_; (case k1 => k_asm); (case k2 => k_is); k_whole | refine' callWith_K0 ?k1 ?k2 ?_; (case k1 => k_in); (case k2 => k_is); k_whole); (try dsimp only [List.nil_append, List.append_nil]))) | ((with_reducible show wpAny _ _ (execs (_ :: _) _) _ _ _); ((with_reducible refine Mine.gen_tok ?_); intro tk; (with_reducible refine wpAny_execs_cons ?_); (try dsimp only))) | walk1 | (dsimp only; walk1) | (leave1; walk_say "STEP leave1"; try dsimp only) | fail "no step"))
    unfold Hold
    k_dflt (refine' kla_eval ?d0 ?_; (case d0 => exact rfl))
    k_dflt (refine' lam_tab (n := []) ?F ?N ?T ?C rfl ?U TabOk.nil rfl ?_; (case F => k_asm); (case N => k_asm); (case T => k_asm); (case C => first | with_reducible assumption | kn_code); (case U => k_updF))
    intro f1 c1 oc1 vs1 t1 ct1 psA tlA h' tk' F' N' hmA d1 d2 hstA hfuA hfsA hltA lfA
    (try dsimp only at N')
    (rw [List.append_nil] at hmA)
    (repeat' (first | (k_unfold; (try dsimp only)) | (k_end; wrow_close) | (((with_reducible show wpAny _ _ (call (Value.ref 225) [Value.ref _]) _ _ _); refine hold ?_)) | walk1 | (dsimp only; walk1) | (leave1; walk_say "STEP leave1"; try dsimp only) | fail "no step"))
    unfold Hold
    k_dflt (refine told_ok (K := Str.ofString "kind") (by k_asm) (by k_asm) (by k_asm) (by k_asm) (by k_asm) (by first | exact rfl | assumption) (by first | with_reducible assumption | assumption) (by first | with_reducible assumption | assumption) ?hD KtsTurn.refl (by first | with_reducible assumption | assumption) ?hb (by lcg_src) ?hcall (by ktr_room) (by ktr_units) ?_)
    case hD => exact ktsDicts_nil
    case hb => exact ghost_ne Y2 (by decide)
    case hcall =>
      (k_dflt (unfold Raises; intro cn' cs' a' ccd' outer' A' base' g' L' m' s' E' B' F' X' N' T' hk' hg' hb' XB' hE'; k_dflt (refine wpAny_call ?_); k_dflt (refine' kla_code ?k1 ?k2 ?k3 ?k4 ?k5 ?kA ?kF ?kK ?k6 ?k7 ?k8 ?k9 ?kB ?_ ?c2 ?c3 ?c4 ?c5; (case kA => exact rfl); (case kF => exact rfl); (case kK => first | exact rfl | assumption); (case k1 => k_asm); (case k2 => k_asm); (case k3 => k_asm); (case k4 => k_asm); (case k5 => k_asm); (case k6 => lcg_src); (case k7 => exact codeRec_news (by k_asm) (by lcg_src) (by first | with_reducible assumption | assumption) (by first | with_reducible assumption | assumption)); (case k8 => k_room); (case k9 => exact rfl); (case c5 => decide); (case kB => exact locs rfl); (case c2 => exact rfl); (case c3 => exact rfl); (case c4 => exact rfl); k_whole; intro g' L' h' FG' F' N' B' X' T'; (try dsimp only); (try k_lift B'); (try k_fold))))
      (repeat' (first | (k_unfold; (try dsimp only)) | (k_end; wrow_close) | (((with_reducible show wpAny _ _ (call (Value.ref 193) _) _ _ _); k_dflt (refine top_le (dp' := 310) (un' := 20) (Nat.le_of_ble_eq_true rfl) (Nat.le_of_ble_eq_true rfl) (world_new (dp := 0) (un := 0) (by k_asm) (by k_asm) (by k_asm) (by k_asm) (by k_asm) (by first | exact rfl | assumption) ?_)); intro xW dW daW oW u1 u2 u3 u4 u5 u6 u7 u8 y1 y3 y4 y5 y6 y7 y8 h' tk' F' N' hdW loW la lb l1 l2 l3)) | (((with_reducible show wpAny _ _ (call (Value.ref 138) _) _ _ _); refine hold ?_)) | ((with_reducible show wpAny _ _ (eval (PySem.Expr.Tuple _ _ _) _) _ _ _); (k_dflt (refine tuple_svs (by rfl) (by first | exact rfl | assumption) (by k_asm) (by k_asm) (by rfl) (by size_fits) ?_); intro Dw7 hw7 ow7 Fw7 Nw7 lw7)) | ((with_reducible show wpAny _ _ (callWith _ (Value.ref _) _ _ _) _ _ _); (k_here; k_dflt (first | refine' callWith_K ?k1 ?k2 ?_; (case k1 => k_asm); (case k2 => k_is); k_whole | refine' callWith_K0 ?k1 ?k2 ?_; (case k1 => k_in); (case k2 => k_is); k_whole); (try dsimp only [List.nil_append, List.append_nil]))) | walk1 | (dsimp only; walk1) | (leave1; walk_say "STEP leave1"; try dsimp only) | fail "no step"))
      unfold Hold
      k_dflt (refine top_le (dp' := 305) (un' := 16) (Nat.le_of_ble_eq_true rfl) (Nat.le_of_ble_eq_true rfl) (told_tup (tys := [_, _]) (its := [_]) (dp := 0) (un := 0) (by k_asm) (by k_asm) (by k_asm) (by k_asm) (by k_asm) (by first | exact rfl | assumption) (by first | with_reducible assumption | assumption) (by first | with_reducible assumption | assumption) XB' (by lcg_src) (by lcg_src) (by lcg_src) (by simp) (by simp) ?ret9 ?bad9))
      case ret9 => intro z; simp at z
      case bad9 =>
        intro z9 e' dd' od' tke' G' h' tk' R' U' hK' FG'
        (repeat' (first | (k_unfold; (try dsimp only)) | (k_end; wrow_close) | ((with_reducible show wpAny _ _ (leaving _ (Value.ref _)) _ _ _); (k_dflt (refine leave_onDS (by k_asm) (by rfl) (by with_reducible assumption) (by with_reducible assumption) (by with_reducible assumption) ?_); intro h' R' U')) | walk1 | (dsimp only; walk1) | (leave1; walk_say "STEP leave1"; try dsimp only) | fail "no step"))
        k_dflt (exact hE' _ _ _ _ _ _ _ (RsS.mono (by first | with_reducible assumption | assumption) (by intro q hq; (repeat (rcases List.mem_cons.mp hq with rfl | hq; lcg_src)); first | lcg_src | (rcases List.mem_append.mp hq with hq | hq <;> lcg_src))) (by with_reducible assumption) (by with_reducible assumption) (by k_asm))
    intro T' tT' t1' t2' g' h' tk' hTn F' N' l1 B' X' P' D'
    (with_reducible rename Heap.IsList _ _ _ => hLs)
    have hLg := turn_list hTn hLs
    (repeat' (first | (k_unfold; (try dsimp only)) | (k_end; wrow_close) | ((with_reducible show wpAny _ _ (call (Value.type "range") _) _ _ _); refine hold ?_) | ((with_reducible show wpAny _ _ (compareOp CmpOp.NotEq (Value.ref _) (Value.ref _)) _ _ _); (k_dflt (refine ne_two (by k_asm) (by k_asm) (by k_asm) (by lcg_src) (by lcg_src) (by decide +kernel) (by ktr_units) ?_))) | ((with_reducible show wpAny _ _ (eval (PySem.Expr.Tuple _ _ _) _) _ _ _); (k_dflt (refine tuple_svs (by rfl) (by first | exact rfl | assumption) (by k_asm) (by k_asm) (by rfl) (by size_fits) ?_); intro Dw7 hw7 ow7 Fw7 Nw7 lw7)) | ((with_reducible show wpAny _ _ (spliced (backTo _ (starEach (_ :: _) _))) _ _ _); (k_dflt (refine spl_g (by rfl) (by first | exact rfl | assumption) (by k_asm) (by rfl) ?_))) | ((with_reducible show wpAny _ _ (execs [] _) _ _ _); ((with_reducible refine Mine.gen_tok ?_); intro tk; (with_reducible refine wpAny_execs_nil ?_); (try dsimp only))) | ((with_reducible show wpAny _ _ (execs (_ :: _) _) _ _ _); ((with_reducible refine Mine.gen_tok ?_); intro tk; (with_reducible refine wpAny_execs_cons ?_); (try dsimp only))) | walk1 | (dsimp only; walk1) | (leave1; walk_say "STEP leave1"; try dsimp only) | fail "no step"))
    unfold Hold
    refine range_at fun n9 hn9 => ?_
    (repeat' (first | (k_unfold; (try dsimp only)) | (k_end; wrow_close) | ((with_reducible show wpAny _ _ (pyIter (Value.ref _)) _ _ _); refine hold ?_) | walk1 | (dsimp only; walk1) | (leave1; walk_say "STEP leave1"; try dsimp only) | fail "no step"))
    unfold Hold
    have hTA := hstA tlA oc1 vs1 t1 hmA d1 d2
    (with_reducible rename Fr _ _ _ _ => F8)
    (with_reducible rename News _ _ _ _ => N8)
    (with_reducible rename IsRange _ _ _ _ _ _ _ _ => R8)
    have N9 := news_sub (l' := (239, tabObj #[]) :: (265, tabObj #[]) :: (94, tabObj #[]) :: (270, tabObj psA) :: ([] ++ [])) N8 (fun q hq => by
      simp only [List.mem_cons, List.append_nil, List.not_mem_nil, or_false] at hq
      rcases hq with rfl | rfl | rfl | rfl <;> lcg_src)
    have F9 := fr_opt (x := Str.ofString "k") (v := none) (fr_opt (x := Str.ofString "source") (v := none) F8 rfl) rfl
    have hInv : LInv ((239, tabObj #[]) :: (265, tabObj #[]) :: (94, tabObj #[]) :: (270, tabObj psA) :: ([] ++ [])) := ⟨⟨_, [], _, _, _, [], rfl, TabS.empty, TabOk.nil, TabOk.nil, TabOk.nil, hTA.1.1, fun _ h => nomatch h⟩⟩
    k_dflt (refine iter_rangeUnr (n := n9) rfl R8 (by rcases hn9 with rfl | rfl <;> decide) (by rcases hn9 with rfl | rfl <;> decide) F9 N9 fun I hI => ?_)
    refine range_ind LInv ?turn ?done n9 0 none none _ (Nat.zero_add _) hInv (fun p hp => Nat.ne_of_lt (hI p hp))
    case done =>
      intro m9 news9 h9 tk9 hI9 F9 N9
      clear N8 F8 R8
      obtain ⟨⟨ot, tlS, ps2, ps, psA', tlH, rfl, hS, -⟩⟩ := hI9
      obtain ⟨po, rfl, -⟩ := hS.tab
      have FE := turn_fr hTn F9
      have NE := turn_news hTn N9
      clear F9 N9
      (repeat' (first | (k_unfold; (try dsimp only)) | (k_end; wrow_close) | ((with_reducible show wpAny _ _ (execs (_ :: _) _) _ _ _); ((with_reducible refine Mine.gen_tok ?_); intro tk; (with_reducible refine wpAny_execs_cons ?_); (try dsimp only))) | walk1 | (dsimp only; walk1) | (leave1; walk_say "STEP leave1"; try dsimp only) | fail "no step"))
    case turn =>
      clear N8 F8 N9 F9 R8
      intro i9 a9 b9 news9 t9 h9 tk9 Q9 hi9 hI9 hne9 F' N' ret9
      have hbb := ghost_ne (tabs := [(267, 265), (241, 239), (96, 94), (274, 270)]) Y2 (by decide)
      (repeat' (first | (k_unfold; (try dsimp only)) | (k_end; wrow_close) | (((with_reducible show wpAny _ _ (call (Value.ref 204) _) _ _ _); refine hold ?_)) | ((with_reducible show wpAny _ _ (eval (PySem.Expr.Call (PySem.Expr.Name _ _) (_ :: _) [] _) _) _ _ _); (k_dflt (refine call_svs (by rfl) (by first | exact rfl | assumption) (by k_asm) (by k_asm) (by k_asm) (by k_is) (by k_is) (by rfl) ?_))) | ((with_reducible show wpAny _ _ (execs (_ :: _) _) _ _ _); ((with_reducible refine Mine.gen_tok ?_); intro tk; (with_reducible refine wpAny_execs_cons ?_); (try dsimp only))) | walk1 | (dsimp only; walk1) | (leave1; walk_say "STEP leave1"; try dsimp only) | fail "no step"))
      unfold Hold
      k_dflt (refine pool_ok (by k_asm) (by k_asm) (by k_asm) (by k_asm) (by k_asm) (by first | exact rfl | assumption) hLg (by with_reducible assumption) (by omega) (by omega) (by omega) (by ktr_room) (by ktr_units) ?_)
      intro DP oP h' tk' F' N' lP hoP
      have hLS : LS DP I news9 := ⟨hI9, fun q hq => Nat.ne_of_lt (allLt_mem lP (o := q.2) (.tail _ hq)), hne9, Nat.ne_of_gt (allLt_mem lP (.head _))⟩
      (repeat' (first | (k_unfold; (try dsimp only)) | (k_end; wrow_close) | (((with_reducible show wpAny _ _ (call (Value.ref 242) _) _ _ _); refine hold ?_)) | ((with_reducible show wpAny _ _ (storeName _ _ _) _ _ _); (k_dflt (refine store_o (by k_asm) (by k_asm) ?_ (by first | exact rfl | assumption) (by rfl)); intro hw7 mw7 Fw7 Nw7)) | ((with_reducible show wpAny _ _ (eval (PySem.Expr.Call (PySem.Expr.Name _ _) (_ :: _) [] _) _) _ _ _); (k_dflt (refine call_svs (by rfl) (by first | exact rfl | assumption) (by k_asm) (by k_asm) (by k_asm) (by k_is) (by k_is) (by rfl) ?_))) | ((with_reducible show wpAny _ _ (execs (_ :: _) _) _ _ _); ((with_reducible refine Mine.gen_tok ?_); intro tk; (with_reducible refine wpAny_execs_cons ?_); (try dsimp only))) | walk1 | (dsimp only; walk1) | (leave1; walk_say "STEP leave1"; try dsimp only) | fail "no step"))
      unfold Hold
      k_dflt (refine step_turn (by k_asm) (by k_asm) (by k_asm) (by k_asm) (by first | exact rfl | assumption) hoP (by k_asm) hLS (by first | with_reducible assumption | assumption) (by first | with_reducible assumption | assumption) hbb (by first | with_reducible assumption | assumption) (by first | with_reducible assumption | assumption) ?_)
      intro o1 n1 h' tk' N' hS1 ho1 F'
      (repeat' (first | (k_unfold; (try dsimp only)) | (k_end; wrow_close) | (((with_reducible show wpAny _ _ (call (Value.ref 249) _) _ _ _); refine hold ?_)) | ((with_reducible show wpAny _ _ (callWith _ (Value.ref _) _ _ _) _ _ _); (k_here; k_dflt (first | refine' callWith_K ?k1 ?k2 ?_; (case k1 => k_asm); (case k2 => k_is); k_whole | refine' callWith_K0 ?k1 ?k2 ?_; (case k1 => k_in); (case k2 => k_is); k_whole); (try dsimp only [List.nil_append, List.append_nil]))) | walk1 | (dsimp only; walk1) | (leave1; walk_say "STEP leave1"; try dsimp only) | fail "no step"))
      unfold Hold
      k_dflt (refine world_ok (dp := 0) (un := 0) (by k_asm) (by k_asm) (by k_asm) (by k_asm) (by k_asm) (by first | exact rfl | assumption) ?_)
      intro wx tlW h' tk' F' N' hWA lW
      (repeat' (first | (k_unfold; (try dsimp only)) | (k_end; wrow_close) | (((with_reducible show wpAny _ _ (call (Value.ref 268) _) _ _ _); refine hold ?_)) | walk1 | (dsimp only; walk1) | (leave1; walk_say "STEP leave1"; try dsimp only) | fail "no step"))
      unfold Hold
      k_dflt (refine hand_turn (by k_asm) (by k_asm) (by k_asm) (by k_asm) (by first | exact rfl | assumption) ho1 (by k_asm) hS1 lW hWA (by first | with_reducible assumption | assumption) (by first | with_reducible assumption | assumption) (by first | with_reducible assumption | assumption) hbb (by first | with_reducible assumption | assumption) (by first | with_reducible assumption | assumption) ?_)
      intro o2 n2 h' tk' N' hne2 hI2 F'
      (repeat' (first | (k_unfold; (try dsimp only)) | (k_end; wrow_close) | ((with_reducible show wpAny _ _ (execs [] _) _ _ _); ((with_reducible refine Mine.gen_tok ?_); intro tk; (with_reducible refine wpAny_execs_nil ?_); (try dsimp only))) | walk1 | (dsimp only; walk1) | (leave1; walk_say "STEP leave1"; try dsimp only) | fail "no step"))
      exact ret9 _ _ _ _ n2 (by k_asm) (fun q hq => N' q (.tail _ hq)) hne2 hI2)
end Mine
theorem PySem.Challenge.cw_xm0595_01_holds : PySem.Challenge.rw_xm0595_01.Holds := by
  exact Mine.law_holds
end
end
