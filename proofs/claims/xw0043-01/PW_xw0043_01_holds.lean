import PyProof.Rows.All
import Wide.All
import OpenK.AllK
import Wide.FinOn
import Lean
import PySem.Challenge.RW_xw0043_01
open PySem PySem.W PyProof.Rows PySem.Calls PySem.Spec
set_option Elab.async false
set_option compiler.extract_closed false
namespace Mine
section
set_option maxRecDepth 100000
noncomputable abbrev quickRun := @PySem.W.Fast.tw14082659384304107361
noncomputable abbrev quickTree := PySem.W.Fast.tw14364793385576792824
noncomputable abbrev quickSeen := @PySem.W.Fast.tw4187177175401517315
/-- an entry of the namespace of the built-in names -/
noncomputable abbrev bE (P : PySem.Params) (c : List Nat) (t : Tok) (v : Value) : PySem.DictEntry := { hash := PySem.PyData.keyHash P ⟨⟨c⟩⟩, key := .str ⟨⟨c⟩⟩ t, val := v }
/-- the built-in names, as the head's run leaves them -/
noncomputable def bltO (P : PySem.Params) : PySem.Obj := { cls := .type "dict", dict := none, data := .dict ⟨[bE P [95,95,110,97,109,101,95,95] 1 (.str ⟨⟨[98, 117, 105, 108, 116, 105, 110, 115]⟩⟩ 160),
  bE P [95,95,100,111,99,95,95] 2 (.builtin "builtins.__doc__:str#opaque"),
  bE P [95,95,112,97,99,107,97,103,101,95,95] 3 (.builtin "builtins.__package__:str#opaque"),
  bE P [95,95,108,111,97,100,101,114,95,95] 4 (.builtin "builtins.__loader__:shared#opaque"),
  bE P [95,95,115,112,101,99,95,95] 5 (.builtin "builtins.__spec__#opaque"),
  bE P [95,95,98,117,105,108,100,95,99,108,97,115,115,95,95] 6 (.builtin "__build_class__"),
  bE P [95,95,105,109,112,111,114,116,95,95] 7 (.builtin "__import__"),
  bE P [97,98,115] 8 (.builtin "abs"),
  bE P [97,108,108] 9 (.builtin "all"),
  bE P [97,110,121] 10 (.builtin "any"),
  bE P [97,115,99,105,105] 11 (.builtin "ascii"),
  bE P [98,105,110] 12 (.builtin "bin"),
  bE P [98,114,101,97,107,112,111,105,110,116] 13 (.builtin "breakpoint"),
  bE P [99,97,108,108,97,98,108,101] 14 (.builtin "callable"),
  bE P [99,104,114] 15 (.builtin "chr"),
  bE P [99,111,109,112,105,108,101] 16 (.builtin "compile"),
  bE P [100,101,108,97,116,116,114] 17 (.builtin "delattr"),
  bE P [100,105,114] 18 (.builtin "dir"),
  bE P [100,105,118,109,111,100] 19 (.builtin "divmod"),
  bE P [101,118,97,108] 20 (.builtin "eval"),
  bE P [101,120,101,99] 21 (.builtin "exec"),
  bE P [102,111,114,109,97,116] 22 (.builtin "format"),
  bE P [103,101,116,97,116,116,114] 23 (.builtin "getattr"),
  bE P [103,108,111,98,97,108,115] 24 (.builtin "globals"),
  bE P [104,97,115,97,116,116,114] 25 (.builtin "hasattr"),
  bE P [104,97,115,104] 26 (.builtin "hash"),
  bE P [104,101,120] 27 (.builtin "hex"),
  bE P [105,100] 28 (.builtin "id"),
  bE P [105,110,112,117,116] 29 (.builtin "input"),
  bE P [105,115,105,110,115,116,97,110,99,101] 30 (.builtin "isinstance"),
  bE P [105,115,115,117,98,99,108,97,115,115] 31 (.builtin "issubclass"),
  bE P [105,116,101,114] 32 (.builtin "iter"),
  bE P [97,105,116,101,114] 33 (.builtin "aiter"),
  bE P [108,101,110] 34 (.builtin "len"),
  bE P [108,111,99,97,108,115] 35 (.builtin "locals"),
  bE P [109,97,120] 36 (.builtin "max"),
  bE P [109,105,110] 37 (.builtin "min"),
  bE P [110,101,120,116] 38 (.builtin "next"),
  bE P [97,110,101,120,116] 39 (.builtin "anext"),
  bE P [111,99,116] 40 (.builtin "oct"),
  bE P [111,114,100] 41 (.builtin "ord"),
  bE P [112,111,119] 42 (.builtin "pow"),
  bE P [112,114,105,110,116] 43 (.builtin "print"),
  bE P [114,101,112,114] 44 (.builtin "repr"),
  bE P [114,111,117,110,100] 45 (.builtin "round"),
  bE P [115,101,116,97,116,116,114] 46 (.builtin "setattr"),
  bE P [115,111,114,116,101,100] 47 (.builtin "sorted"),
  bE P [115,117,109] 48 (.builtin "sum"),
  bE P [118,97,114,115] 49 (.builtin "vars"),
  bE P [78,111,110,101] 50 (.none),
  bE P [69,108,108,105,112,115,105,115] 51 (.ellipsis),
  bE P [78,111,116,73,109,112,108,101,109,101,110,116,101,100] 52 (.notImplemented),
  bE P [70,97,108,115,101] 53 (.bool false),
  bE P [84,114,117,101] 54 (.bool true),
  bE P [98,111,111,108] 55 (.type "bool"),
  bE P [109,101,109,111,114,121,118,105,101,119] 56 (.type "memoryview"),
  bE P [98,121,116,101,97,114,114,97,121] 57 (.type "bytearray"),
  bE P [98,121,116,101,115] 58 (.type "bytes"),
  bE P [99,108,97,115,115,109,101,116,104,111,100] 59 (.type "classmethod"),
  bE P [99,111,109,112,108,101,120] 60 (.type "complex"),
  bE P [100,105,99,116] 61 (.type "dict"),
  bE P [101,110,117,109,101,114,97,116,101] 62 (.type "enumerate"),
  bE P [102,105,108,116,101,114] 63 (.type "filter"),
  bE P [102,108,111,97,116] 64 (.type "float"),
  bE P [102,114,111,122,101,110,115,101,116] 65 (.type "frozenset"),
  bE P [112,114,111,112,101,114,116,121] 66 (.type "property"),
  bE P [105,110,116] 67 (.type "int"),
  bE P [108,105,115,116] 68 (.type "list"),
  bE P [109,97,112] 69 (.type "map"),
  bE P [111,98,106,101,99,116] 70 (.type "object"),
  bE P [114,97,110,103,101] 71 (.type "range"),
  bE P [114,101,118,101,114,115,101,100] 72 (.type "reversed"),
  bE P [115,101,116] 73 (.type "set"),
  bE P [115,108,105,99,101] 74 (.type "slice"),
  bE P [115,116,97,116,105,99,109,101,116,104,111,100] 75 (.type "staticmethod"),
  bE P [115,116,114] 76 (.type "str"),
  bE P [115,117,112,101,114] 77 (.type "super"),
  bE P [116,117,112,108,101] 78 (.type "tuple"),
  bE P [116,121,112,101] 79 (.type "type"),
  bE P [122,105,112] 80 (.type "zip"),
  bE P [95,95,100,101,98,117,103,95,95] 81 (.bool true),
  bE P [66,97,115,101,69,120,99,101,112,116,105,111,110] 82 (.type "BaseException"),
  bE P [66,97,115,101,69,120,99,101,112,116,105,111,110,71,114,111,117,112] 83 (.type "BaseExceptionGroup"),
  bE P [69,120,99,101,112,116,105,111,110] 84 (.type "Exception"),
  bE P [71,101,110,101,114,97,116,111,114,69,120,105,116] 85 (.type "GeneratorExit"),
  bE P [75,101,121,98,111,97,114,100,73,110,116,101,114,114,117,112,116] 86 (.type "KeyboardInterrupt"),
  bE P [83,121,115,116,101,109,69,120,105,116] 87 (.type "SystemExit"),
  bE P [65,114,105,116,104,109,101,116,105,99,69,114,114,111,114] 88 (.type "ArithmeticError"),
  bE P [65,115,115,101,114,116,105,111,110,69,114,114,111,114] 89 (.type "AssertionError"),
  bE P [65,116,116,114,105,98,117,116,101,69,114,114,111,114] 90 (.type "AttributeError"),
  bE P [66,117,102,102,101,114,69,114,114,111,114] 91 (.type "BufferError"),
  bE P [69,79,70,69,114,114,111,114] 92 (.type "EOFError"),
  bE P [73,109,112,111,114,116,69,114,114,111,114] 93 (.type "ImportError"),
  bE P [76,111,111,107,117,112,69,114,114,111,114] 94 (.type "LookupError"),
  bE P [77,101,109,111,114,121,69,114,114,111,114] 95 (.type "MemoryError"),
  bE P [78,97,109,101,69,114,114,111,114] 96 (.type "NameError"),
  bE P [79,83,69,114,114,111,114] 97 (.type "OSError"),
  bE P [82,101,102,101,114,101,110,99,101,69,114,114,111,114] 98 (.type "ReferenceError"),
  bE P [82,117,110,116,105,109,101,69,114,114,111,114] 99 (.type "RuntimeError"),
  bE P [83,116,111,112,65,115,121,110,99,73,116,101,114,97,116,105,111,110] 100 (.type "StopAsyncIteration"),
  bE P [83,116,111,112,73,116,101,114,97,116,105,111,110] 101 (.type "StopIteration"),
  bE P [83,121,110,116,97,120,69,114,114,111,114] 102 (.type "SyntaxError"),
  bE P [83,121,115,116,101,109,69,114,114,111,114] 103 (.type "SystemError"),
  bE P [84,121,112,101,69,114,114,111,114] 104 (.type "TypeError"),
  bE P [86,97,108,117,101,69,114,114,111,114] 105 (.type "ValueError"),
  bE P [87,97,114,110,105,110,103] 106 (.type "Warning"),
  bE P [70,108,111,97,116,105,110,103,80,111,105,110,116,69,114,114,111,114] 107 (.type "FloatingPointError"),
  bE P [79,118,101,114,102,108,111,119,69,114,114,111,114] 108 (.type "OverflowError"),
  bE P [90,101,114,111,68,105,118,105,115,105,111,110,69,114,114,111,114] 109 (.type "ZeroDivisionError"),
  bE P [66,121,116,101,115,87,97,114,110,105,110,103] 110 (.type "BytesWarning"),
  bE P [68,101,112,114,101,99,97,116,105,111,110,87,97,114,110,105,110,103] 111 (.type "DeprecationWarning"),
  bE P [69,110,99,111,100,105,110,103,87,97,114,110,105,110,103] 112 (.type "EncodingWarning"),
  bE P [70,117,116,117,114,101,87,97,114,110,105,110,103] 113 (.type "FutureWarning"),
  bE P [73,109,112,111,114,116,87,97,114,110,105,110,103] 114 (.type "ImportWarning"),
  bE P [80,101,110,100,105,110,103,68,101,112,114,101,99,97,116,105,111,110,87,97,114,110,105,110,103] 115 (.type "PendingDeprecationWarning"),
  bE P [82,101,115,111,117,114,99,101,87,97,114,110,105,110,103] 116 (.type "ResourceWarning"),
  bE P [82,117,110,116,105,109,101,87,97,114,110,105,110,103] 117 (.type "RuntimeWarning"),
  bE P [83,121,110,116,97,120,87,97,114,110,105,110,103] 118 (.type "SyntaxWarning"),
  bE P [85,110,105,99,111,100,101,87,97,114,110,105,110,103] 119 (.type "UnicodeWarning"),
  bE P [85,115,101,114,87,97,114,110,105,110,103] 120 (.type "UserWarning"),
  bE P [66,108,111,99,107,105,110,103,73,79,69,114,114,111,114] 121 (.type "BlockingIOError"),
  bE P [67,104,105,108,100,80,114,111,99,101,115,115,69,114,114,111,114] 122 (.type "ChildProcessError"),
  bE P [67,111,110,110,101,99,116,105,111,110,69,114,114,111,114] 123 (.type "ConnectionError"),
  bE P [70,105,108,101,69,120,105,115,116,115,69,114,114,111,114] 124 (.type "FileExistsError"),
  bE P [70,105,108,101,78,111,116,70,111,117,110,100,69,114,114,111,114] 125 (.type "FileNotFoundError"),
  bE P [73,110,116,101,114,114,117,112,116,101,100,69,114,114,111,114] 126 (.type "InterruptedError"),
  bE P [73,115,65,68,105,114,101,99,116,111,114,121,69,114,114,111,114] 127 (.type "IsADirectoryError"),
  bE P [78,111,116,65,68,105,114,101,99,116,111,114,121,69,114,114,111,114] 128 (.type "NotADirectoryError"),
  bE P [80,101,114,109,105,115,115,105,111,110,69,114,114,111,114] 129 (.type "PermissionError"),
  bE P [80,114,111,99,101,115,115,76,111,111,107,117,112,69,114,114,111,114] 130 (.type "ProcessLookupError"),
  bE P [84,105,109,101,111,117,116,69,114,114,111,114] 131 (.type "TimeoutError"),
  bE P [73,110,100,101,110,116,97,116,105,111,110,69,114,114,111,114] 132 (.type "IndentationError"),
  bE P [95,73,110,99,111,109,112,108,101,116,101,73,110,112,117,116,69,114,114,111,114] 133 (.type "_IncompleteInputError"),
  bE P [73,110,100,101,120,69,114,114,111,114] 134 (.type "IndexError"),
  bE P [75,101,121,69,114,114,111,114] 135 (.type "KeyError"),
  bE P [77,111,100,117,108,101,78,111,116,70,111,117,110,100,69,114,114,111,114] 136 (.type "ModuleNotFoundError"),
  bE P [78,111,116,73,109,112,108,101,109,101,110,116,101,100,69,114,114,111,114] 137 (.type "NotImplementedError"),
  bE P [80,121,116,104,111,110,70,105,110,97,108,105,122,97,116,105,111,110,69,114,114,111,114] 138 (.type "PythonFinalizationError"),
  bE P [82,101,99,117,114,115,105,111,110,69,114,114,111,114] 139 (.type "RecursionError"),
  bE P [85,110,98,111,117,110,100,76,111,99,97,108,69,114,114,111,114] 140 (.type "UnboundLocalError"),
  bE P [85,110,105,99,111,100,101,69,114,114,111,114] 141 (.type "UnicodeError"),
  bE P [66,114,111,107,101,110,80,105,112,101,69,114,114,111,114] 142 (.type "BrokenPipeError"),
  bE P [67,111,110,110,101,99,116,105,111,110,65,98,111,114,116,101,100,69,114,114,111,114] 143 (.type "ConnectionAbortedError"),
  bE P [67,111,110,110,101,99,116,105,111,110,82,101,102,117,115,101,100,69,114,114,111,114] 144 (.type "ConnectionRefusedError"),
  bE P [67,111,110,110,101,99,116,105,111,110,82,101,115,101,116,69,114,114,111,114] 145 (.type "ConnectionResetError"),
  bE P [84,97,98,69,114,114,111,114] 146 (.type "TabError"),
  bE P [85,110,105,99,111,100,101,68,101,99,111,100,101,69,114,114,111,114] 147 (.type "UnicodeDecodeError"),
  bE P [85,110,105,99,111,100,101,69,110,99,111,100,101,69,114,114,111,114] 148 (.type "UnicodeEncodeError"),
  bE P [85,110,105,99,111,100,101,84,114,97,110,115,108,97,116,101,69,114,114,111,114] 149 (.type "UnicodeTranslateError"),
  bE P [69,120,99,101,112,116,105,111,110,71,114,111,117,112] 150 (.type "ExceptionGroup"),
  bE P [69,110,118,105,114,111,110,109,101,110,116,69,114,114,111,114] 151 (.type "OSError"),
  bE P [73,79,69,114,114,111,114] 152 (.type "OSError"),
  bE P [111,112,101,110] 153 (.builtin "open"),
  bE P [113,117,105,116] 154 (.builtin "builtins.quit#opaque"),
  bE P [101,120,105,116] 155 (.builtin "builtins.exit#opaque"),
  bE P [99,111,112,121,114,105,103,104,116] 156 (.builtin "builtins.copyright#opaque"),
  bE P [99,114,101,100,105,116,115] 157 (.builtin "builtins.credits#opaque"),
  bE P [108,105,99,101,110,115,101] 158 (.builtin "builtins.license#opaque"),
  bE P [104,101,108,112] 159 (.builtin "builtins.help#opaque")]⟩ 159, slots := #[] }
/-- what the head shows of the top, and the built-in names -/
noncomputable def hook0 (H : Hook) : Hook where
  α := H.α × Option PySem.Obj
  obs := fun s => (H.obs s, s.heap.get? 0)
  val := fun w => (H.val w, some (bltO w.params))
  says := fun w h => H.says w h ∧ h.get? 0 = some (bltO w.params)
  of := fun w s x => ⟨H.of w s (Prod.mk.inj x).1, (Prod.mk.inj x).2⟩
  keeps := fun w h h' x k => ⟨H.keeps w h h' x.1 k, k _ _ x.2⟩
/-- the top's run at once, by the library's quick forms -/
theorem LeftO.of_run {p q : Program} {loose : List Str} {Xt : Shared → Bool} {α : Type} {Yf : Shared → α} {Ya : World → α} {N : Nat} {g0 : Bool} {H₀ : Params → Heap} {gs₀ : Array GenState} {d₀ : Drawn} {k₀ : Nat}
    (open_ : ∀ w : World, (fencedOpening treeTable p w N).map (fun s => (s.heap, s.gens, s.drawn, s.toks)) = some (H₀ w.params, gs₀, d₀, k₀))
    (size : ∀ w : World, ((H₀ w.params).isNs mainGlobals && gs₀.size == 0) = true)
    (run : ∀ (w : World) (os : OsState), (quickRun quickTree p w (H₀ w.params).objs.size ((H₀ w.params).nsMap mainGlobals "__annotations__") N ⟨H₀ w.params, gs₀, d₀, k₀, os⟩ (topStub p)).map (fun s => (staticsOk (importedModules p.main.body) (H₀ w.params) s.heap && namesBound p s.heap && gensDone s && laidKept (H₀ w.params) s.heap, quickSeen q loose (importedModules p.main.body) Xt g0 s, Yf s)) = some (true, openGood q loose, Ya w)) : LeftO p q loose Xt Yf Ya N g0 := fun w => by
  obtain ⟨⟨h, gs, d, k, os⟩, e, e'⟩ := Option.map_eq_some_iff.mp (open_ w)
  obtain ⟨rfl, rfl, rfl, rfl⟩ : h = H₀ w.params ∧ gs = gs₀ ∧ d = d₀ ∧ k = k₀ := by simpa using e'
  have r := run w os
  unfold quickRun quickTree quickSeen at r
  rw [← PySem.W.Fast.te14082659384304107361, ← PySem.W.Fast.te14364793385576792824, ← PySem.W.Fast.te4187177175401517315] at r
  obtain ⟨s, e1, e2⟩ := Option.map_eq_some_iff.mp r
  obtain ⟨e3, e4⟩ := Prod.mk.inj e2
  unfold openEnds
  rw [e]
  show (topFrom treeTable p w N _).map _ = _
  unfold topFrom
  dsimp only
  rw [size w, e1]
  show Option.map _ (match staticsOk (importedModules p.main.body) (H₀ w.params) s.heap && namesBound p s.heap && gensDone s && laidKept (H₀ w.params) s.heap with | true => _ | false => _) = _
  rw [e3]
  exact congrArg some e4
/-- the text without the statements that nothing is asked of -/
noncomputable def vw : Program := view PySem.Challenge.pw_xw0043_01 [1,2,4,5,6,7,8,9,11,12,13,14,15,16,17,18,19,20]
theorem boo : ∀ w : World, (fencedOpening treeTable PySem.Challenge.pw_xw0043_01 w 2638).map (fun s => (s.heap, s.gens, s.drawn, s.toks)) = some (boot_heap w.params, Array.mk [], boot_drawn, boot_toks) := boot_open (by kernel_rfl) (by rfl) (fun s => by kernel_rfl)
theorem left_tp {K : Params → Frag} {as : List Addr} {e : ∀ P, as = (K P).map (·.1)} {ts : List Addr}
    (run : ∀ (w : World) (os : OsState), (quickRun quickTree PySem.Challenge.pw_xw0043_01 w (boot_heap w.params).objs.size ((boot_heap w.params).nsMap mainGlobals "__annotations__") 2638 ⟨boot_heap w.params, Array.mk [], boot_drawn, boot_toks, os⟩ (topStub PySem.Challenge.pw_xw0043_01)).map (fun s => (staticsOk (importedModules PySem.Challenge.pw_xw0043_01.main.body) (boot_heap w.params) s.heap && namesBound PySem.Challenge.pw_xw0043_01 s.heap && gensDone s && laidKept (boot_heap w.params) s.heap,
      quickSeen vw [Str.ofString "ChanError"] (importedModules PySem.Challenge.pw_xw0043_01.main.body) (fun s => xlAt vw [] s && recOk PySem.Challenge.rw_xw0043_01.row.records s) true s, (hook0 (kmHook K as e ts)).obs s)) = some (true, openGood vw [Str.ofString "ChanError"], (hook0 (kmHook K as e ts)).val w)) :
    LeftO PySem.Challenge.rw_xw0043_01.row.prog vw [Str.ofString "ChanError"] (fun s => xlAt vw [] s && recOk PySem.Challenge.rw_xw0043_01.row.records s) (hook0 (kmHook K as e ts)).obs (hook0 (kmHook K as e ts)).val 2638 := LeftO.of_run boo (fun w => by kernel_rfl) run
theorem said_tp : PySem.Challenge.rw_xw0043_01.wellSaid = true :=
  (congrFun PySem.W.Fast.te9446332074065402090 PySem.Challenge.rw_xw0043_01).trans (by kernel_rfl)
local macro_rules | `(tactic| o_law) => `(tactic| refine holds_law said_tp fun said => ?_)
local macro_rules | `(tactic| o_head $H) => `(tactic| (
  refine holds_open (q := vw) (loose := [Str.ofString "ChanError"]) (Xt := fun s => xlAt vw [] s && recOk PySem.Challenge.rw_xw0043_01.row.records s) (XP := XL vw []) (Yf := Hook.obs (hook0 $H)) (Ya := Hook.val (hook0 $H)) (YP := Hook.says (hook0 $H)) (N := 2638) ?hl (Hook.of (hook0 $H)) (Hook.keeps (hook0 $H)) (fun s e => xl_of s (Bool.and_eq_true_iff.mp e).1) XL.keeps (by rfl) (by rfl) (by rfl) (fun s e => recFacts_of (Bool.and_eq_true_iff.mp e).2) (by rfl) (by assumption) (by kernel_rfl) ⟨rfl, rfl, rfl, rfl, rfl, by decide +kernel⟩ ?hw ?hc
  case hl => exact left_tp fun w os => by kernel_rfl))
set_option maxHeartbeats 8000000 in
open_top tp for PySem.Challenge.rw_xw0043_01
/-- an object of the top, as the head writes it -/
noncomputable def ob (P : PySem.Params) (a : Nat) : PySem.Obj := ((tp.heap_1 P).lookup a).getD { cls := .none, data := .plain }
set_option maxRecDepth 100000 in
/-- the objects of the top that stand, whatever the law does -/
noncomputable def K4 (P : PySem.Params) : PySem.W.Frag := List.cons (nat_lit 0, bltO P) (List.cons (nat_lit 2, ob P 2) (List.cons (nat_lit 3, ob P 3) (List.cons (nat_lit 15, ob P 15) (List.cons (nat_lit 22, ob P 22) (List.cons (nat_lit 23, ob P 23) (List.cons (nat_lit 25, ob P 25) (List.cons (nat_lit 26, ob P 26) (List.cons (nat_lit 28, ob P 28) (List.cons (nat_lit 29, ob P 29) (List.cons (nat_lit 30, ob P 30) (List.cons (nat_lit 31, ob P 31) (List.cons (nat_lit 32, ob P 32) (List.cons (nat_lit 33, ob P 33) (List.cons (nat_lit 36, ob P 36) (List.cons (nat_lit 43, ob P 43) (List.cons (nat_lit 44, ob P 44) (List.cons (nat_lit 45, ob P 45) (List.cons (nat_lit 48, ob P 48) (List.cons (nat_lit 49, ob P 49) (List.cons (nat_lit 50, ob P 50) (List.cons (nat_lit 52, ob P 52) (List.cons (nat_lit 53, ob P 53) (List.cons (nat_lit 55, ob P 55) (List.cons (nat_lit 56, ob P 56) (List.cons (nat_lit 57, ob P 57) (List.cons (nat_lit 60, ob P 60) (List.cons (nat_lit 61, ob P 61) (List.cons (nat_lit 62, ob P 62) (List.cons (nat_lit 64, ob P 64) (List.cons (nat_lit 65, ob P 65) (List.cons (nat_lit 67, ob P 67) (List.cons (nat_lit 68, ob P 68) (List.cons (nat_lit 76, ob P 76) (List.cons (nat_lit 78, ob P 78) (List.cons (nat_lit 79, ob P 79) (List.cons (nat_lit 81, ob P 81) (List.cons (nat_lit 82, ob P 82) (List.cons (nat_lit 83, ob P 83) (List.cons (nat_lit 85, ob P 85) (List.cons (nat_lit 86, ob P 86) (List.cons (nat_lit 88, ob P 88) (List.cons (nat_lit 89, ob P 89) (List.cons (nat_lit 90, ob P 90) (List.cons (nat_lit 92, ob P 92) (List.cons (nat_lit 93, ob P 93) (List.cons (nat_lit 95, ob P 95) (List.cons (nat_lit 96, ob P 96) (List.cons (nat_lit 97, ob P 97) (List.cons (nat_lit 100, ob P 100) (List.cons (nat_lit 101, ob P 101) (List.cons (nat_lit 102, ob P 102) (List.cons (nat_lit 104, ob P 104) (List.cons (nat_lit 105, ob P 105) (List.cons (nat_lit 107, ob P 107) (List.cons (nat_lit 108, ob P 108) (List.cons (nat_lit 109, ob P 109) (List.cons (nat_lit 110, ob P 110) (List.cons (nat_lit 111, ob P 111) (List.cons (nat_lit 112, ob P 112) (List.cons (nat_lit 113, ob P 113) (List.cons (nat_lit 116, ob P 116) (List.cons (nat_lit 118, ob P 118) (List.cons (nat_lit 119, ob P 119) (List.cons (nat_lit 121, ob P 121) (List.cons (nat_lit 122, ob P 122) (List.cons (nat_lit 123, ob P 123) (List.cons (nat_lit 125, ob P 125) (List.cons (nat_lit 126, ob P 126) (List.cons (nat_lit 128, ob P 128) (List.cons (nat_lit 129, ob P 129) (List.cons (nat_lit 130, ob P 130) (List.cons (nat_lit 132, ob P 132) (List.cons (nat_lit 133, ob P 133) (List.cons (nat_lit 135, ob P 135) (List.cons (nat_lit 136, ob P 136) (List.cons (nat_lit 137, ob P 137) (List.cons (nat_lit 139, ob P 139) (List.cons (nat_lit 140, ob P 140) (List.cons (nat_lit 142, ob P 142) (List.cons (nat_lit 143, ob P 143) (List.cons (nat_lit 144, ob P 144) (List.cons (nat_lit 146, ob P 146) (List.cons (nat_lit 147, ob P 147) (List.cons (nat_lit 149, ob P 149) (List.cons (nat_lit 150, ob P 150) (List.cons (nat_lit 151, ob P 151) (List.cons (nat_lit 154, ob P 154) (List.cons (nat_lit 155, ob P 155) (List.cons (nat_lit 156, ob P 156) (List.cons (nat_lit 158, ob P 158) (List.cons (nat_lit 159, ob P 159) (List.cons (nat_lit 161, ob P 161) (List.cons (nat_lit 162, ob P 162) (List.cons (nat_lit 163, ob P 163) (List.cons (nat_lit 166, ob P 166) (List.cons (nat_lit 167, ob P 167) (List.cons (nat_lit 168, ob P 168) (List.cons (nat_lit 170, ob P 170) (List.cons (nat_lit 171, ob P 171) (List.cons (nat_lit 173, ob P 173) (List.cons (nat_lit 174, ob P 174) (List.cons (nat_lit 175, ob P 175) (List.cons (nat_lit 177, ob P 177) (List.cons (nat_lit 178, ob P 178) (List.cons (nat_lit 180, ob P 180) (List.cons (nat_lit 181, ob P 181) (List.nil)))))))))))))))))))))))))))))))))))))))))))))))))))))))))))))))))))))))))))))))))))))))))))))))))))))))))))
set_option maxRecDepth 100000 in
theorem no164 (P : PySem.Params) : ((K4 P).all fun p => p.1 != 164) = true := by kernel_rfl
set_option maxRecDepth 100000 in
theorem k4_of {P : PySem.Params} {h : PySem.Heap} (X : (tp.heap_1 P).In h) (Z : h.get? 0 = some (bltO P)) : (K4 P).In h := by
  have e : (K4 P).tail.map (fun p => (tp.heap_1 P).lookup p.1) = (K4 P).tail.map (fun p => some p.2) := by kernel_rfl
  intro a o ho
  rcases List.mem_cons.mp (PySem.W.mem_of_lookupK ho) with q | q
  · obtain ⟨rfl, rfl⟩ := Prod.mk.inj q
    exact Z
  · exact X a o ((List.map_inj_left.mp e) (a, o) q)

end
theorem fresh_Plain : True := by
  w_top off
  exact trivial
/-- the seven words that begin something -/
inductive Kd where
  | block | iff | for | range | switch | typeswitch | choose
  deriving DecidableEq
/-- a label: none, A, B, _ -/
inductive Lab where
  | no | a | b | u
  deriving DecidableEq
/-- a step of the flat row -/
inductive Step where
  | beg (k : Kd) (l : Lab)
  | fin
  | lead (brk : Bool) (l : Lab)
  deriving DecidableEq
/-- a statement -/
inductive Stm where
  | lead (brk : Bool) (spot : Nat) (l : Lab)
  | made (k : Kd) (spot : Nat) (l : Lab) (body : List Stm)

noncomputable def Kd.loop : Kd → Bool
  | .for | .range => true
  | _ => false
noncomputable def Kd.left : Kd → Bool
  | .block | .iff => false
  | _ => true
noncomputable def Lab.tells : Lab → Bool
  | .a | .b => true
  | _ => false

noncomputable def hits (brk : Bool) (l : Lab) (opened : List (Kd × Lab)) : Bool := opened.any fun x => x.1.left && (brk || x.1.loop) && (l == .no || (x.2 == l && l != .u))

/-- the law's own reading: the first spot at fault, the labels told, the labels led to -/
noncomputable def readGo : Nat → List Step → List (Kd × Lab) → List (Lab × Nat) → List Lab → Option Nat × List (Lab × Nat) × List Lab
  | _, [], _, told, led => (none, told, led)
  | i, .fin :: r, opened, told, led => readGo (i + 1) r opened.tail told led
  | i, .beg k l :: r, opened, told, led =>
    if l.tells && (told.map (·.1)).contains l then (some i, told, led)
    else readGo (i + 1) r ((k, l) :: opened) (if l.tells then told ++ [(l, i)] else told) led
  | i, .lead brk l :: r, opened, told, led =>
    if hits brk l opened then readGo (i + 1) r opened told (if l = .no then led else led ++ [l]) else (some i, told, (if l = .no then led else led ++ [l]))

/-- the checker: told, led -/
structure CS where
  told : List (Lab × Nat)
  led : List Lab

mutual
noncomputable def chk : Stm → List (Kd × Lab) → CS → Except Nat CS
  | .lead brk i l, opened, c => if hits brk l opened then .ok { c with led := if l = .no then c.led else c.led ++ [l] } else .error i
  | .made k i l body, opened, c =>
    if k.left then
      if l.tells && (c.told.map (·.1)).contains l then .error i
      else chkAll body ((k, l) :: opened) { c with told := if l.tells then c.told ++ [(l, i)] else c.told }
    else chkAll body opened c
noncomputable def chkAll : List Stm → List (Kd × Lab) → CS → Except Nat CS
  | [], _, c => .ok c
  | s :: r, opened, c => match chk s opened c with
    | .error i => .error i
    | .ok c' => chkAll r opened c'
end

mutual
noncomputable def flat : Stm → List Step
  | .lead brk _ l => [.lead brk l]
  | .made k _ l body => .beg k l :: (flats body ++ [.fin])
noncomputable def flats : List Stm → List Step
  | [] => []
  | s :: r => flat s ++ flats r
end
mutual
/-- the spots are the places in the flat row, from `i` on; blocks and ifs bear no label -/
noncomputable def Num : Nat → Stm → Prop
  | i, .lead _ j _ => j = i
  | i, .made k j l body => j = i ∧ (k.left = false → l = .no) ∧ Nums (i + 1) body
noncomputable def Nums : Nat → List Stm → Prop
  | _, [] => True
  | i, s :: r => Num i s ∧ Nums (i + (flat s).length) r
end

theorem hits_filter (brk : Bool) (l : Lab) (opened : List (Kd × Lab)) : hits brk l (opened.filter (·.1.left)) = hits brk l opened := by
  unfold hits
  induction opened with
  | nil => rfl
  | cons x r ih =>
    rw [List.filter_cons]
    cases h : x.1.left
    · simp [h, ih]
    · simp [h, ih]

theorem flats_append (a b : List Stm) : flats (a ++ b) = flats a ++ flats b := by
  induction a with
  | nil => simp [flats]
  | cons s r ih => simp [flats, ih]
theorem nums_append : ∀ (a b : List Stm) (i : Nat), Nums i (a ++ b) ↔ Nums i a ∧ Nums (i + (flats a).length) b
  | [], b, i => by simp [Nums, flats]
  | s :: r, b, i => by
    rw [List.cons_append]
    simp only [Nums, flats, List.length_append, nums_append r b, Nat.add_assoc, and_assoc]

theorem chkAll_append (opened : List (Kd × Lab)) : ∀ (a b : List Stm) (c : CS), chkAll (a ++ b) opened c = match chkAll a opened c with | .error i => .error i | .ok c' => chkAll b opened c'
  | [], b, c => by simp [chkAll]
  | s :: r, b, c => by
    simp only [List.cons_append, chkAll]
    cases chk s opened c with
    | error i => rfl
    | ok c' => exact chkAll_append opened r b c'

/-- what the flat reading gives at a fault or behind a row that has none -/
noncomputable def After (i : Nat) (rest : List Step) (opened : List (Kd × Lab)) (r : Except Nat CS) (res : Option Nat × List (Lab × Nat) × List Lab) : Prop :=
  match r with
  | .error j => res.1 = some j
  | .ok c => res = readGo i rest opened c.told c.led

mutual
theorem read_flat : ∀ (s : Stm) (i : Nat) (rest : List Step) (opened : List (Kd × Lab)) (c : CS), Num i s →
    After (i + (flat s).length) rest opened (chk s (opened.filter (·.1.left)) c) (readGo i (flat s ++ rest) opened c.told c.led)
  | .lead brk j l, i, rest, opened, c, h => by
    obtain rfl : j = i := h
    simp only [flat, chk, List.cons_append, List.nil_append, readGo, hits_filter]
    cases hh : hits brk l opened
    · simp [After]
    · simp [After]
  | .made k j l body, i, rest, opened, c, h => by
    obtain ⟨rfl, hk, hb⟩ := h
    simp only [flat, chk, List.cons_append, readGo]
    cases hk' : k.left
    · have hl := hk hk'
      subst hl
      simp only [Lab.tells, Bool.false_and, Bool.false_eq_true, if_false]
      have ih := reads_flat body (j + 1) (.fin :: rest) ((k, .no) :: opened) c hb
      rw [List.filter_cons] at ih
      simp only [hk', Bool.false_eq_true, if_false] at ih
      have e : flats body ++ [Step.fin] ++ rest = flats body ++ (.fin :: rest) := by simp
      rw [e]
      cases hc : chkAll body (opened.filter (·.1.left)) c with
      | error n => rw [hc] at ih; exact ih
      | ok c' =>
        rw [hc] at ih
        simp only [After] at ih ⊢
        rw [ih]
        simp only [readGo, List.tail_cons, List.length_cons, List.length_append, List.length_nil]
        have e2 : j + 1 + (flats body).length + 1 = j + ((flats body).length + (0 + 1) + 1) := by omega
        rw [e2]
    · simp only [if_true]
      by_cases ht : (l.tells && (c.told.map (·.1)).contains l) = true
      · rw [if_pos ht, if_pos ht]
        rfl
      · rw [if_neg ht, if_neg ht]
        have ih := reads_flat body (j + 1) (.fin :: rest) ((k, l) :: opened) { c with told := if l.tells then c.told ++ [(l, j)] else c.told } hb
        rw [List.filter_cons] at ih
        simp only [hk', if_true] at ih
        have e : flats body ++ [Step.fin] ++ rest = flats body ++ (.fin :: rest) := by simp
        rw [e]
        cases hc : chkAll body ((k, l) :: opened.filter (·.1.left)) { c with told := if l.tells then c.told ++ [(l, j)] else c.told } with
        | error n => rw [hc] at ih; exact ih
        | ok c' =>
          rw [hc] at ih
          simp only [After] at ih ⊢
          rw [ih]
          simp only [readGo, List.tail_cons, List.length_cons, List.length_append, List.length_nil]
          have e2 : j + 1 + (flats body).length + 1 = j + ((flats body).length + (0 + 1) + 1) := by omega
          rw [e2]
theorem reads_flat : ∀ (ss : List Stm) (i : Nat) (rest : List Step) (opened : List (Kd × Lab)) (c : CS), Nums i ss →
    After (i + (flats ss).length) rest opened (chkAll ss (opened.filter (·.1.left)) c) (readGo i (flats ss ++ rest) opened c.told c.led)
  | [], i, rest, opened, c, _ => by simp [flats, chkAll, After]
  | s :: r, i, rest, opened, c, h => by
    obtain ⟨h1, h2⟩ := h
    simp only [flats, chkAll, List.append_assoc]
    have a := read_flat s i (flats r ++ rest) opened c h1
    cases hc : chk s (opened.filter (·.1.left)) c with
    | error n => rw [hc] at a; exact a
    | ok c' =>
      rw [hc] at a
      simp only [After] at a
      rw [a]
      have b := reads_flat r (i + (flat s).length) rest opened c' h2
      rw [List.length_append, ← Nat.add_assoc]
      exact b
end

theorem readGo_fins : ∀ (n i : Nat) (opened : List (Kd × Lab)) (told : List (Lab × Nat)) (led : List Lab), readGo i (List.replicate n .fin) opened told led = (none, told, led)
  | 0, _, _, _, _ => by simp [readGo]
  | n + 1, i, opened, told, led => by
    rw [List.replicate_succ]
    exact readGo_fins n (i + 1) opened.tail told led
theorem readGo_more (n : Nat) : ∀ (steps : List Step) (i : Nat) (opened : List (Kd × Lab)) (told : List (Lab × Nat)) (led : List Lab), readGo i (steps ++ List.replicate n .fin) opened told led = readGo i steps opened told led
  | [], i, opened, told, led => by rw [List.nil_append, readGo_fins]; simp [readGo]
  | .fin :: r, i, opened, told, led => by
    simp only [List.cons_append, readGo]
    exact readGo_more n r _ _ _ _
  | .beg k l :: r, i, opened, told, led => by
    simp only [List.cons_append, readGo]
    split
    · rfl
    · exact readGo_more n r _ _ _ _
  | .lead brk l :: r, i, opened, told, led => by
    simp only [List.cons_append, readGo]
    split
    · exact readGo_more n r _ _ _ _
    · rfl

/-- the stack of what is begun, and of the bodies; the top first -/
abbrev Begun := List (Kd × Lab × Nat)
noncomputable def stPush (i : Nat) : Step → Begun × List (List Stm) → Begun × List (List Stm)
  | .beg k l, (bg, bs) => ((k, l, i) :: bg, [] :: bs)
  | .fin, ((k, l, j) :: bg, b :: c :: bs) => (bg, (c ++ [.made k j l b]) :: bs)
  | .fin, x => x
  | .lead brk l, (bg, b :: bs) => (bg, (b ++ [.lead brk i l]) :: bs)
  | .lead _ _, x => x
noncomputable def stGo : Nat → List Step → Begun × List (List Stm) → Begun × List (List Stm)
  | _, [], x => x
  | i, s :: r, x => stGo (i + 1) r (stPush i s x)
noncomputable def stClose : Begun → List (List Stm) → List Stm
  | [], b :: _ => b
  | (k, l, j) :: bg, b :: c :: bs => stClose bg ((c ++ [.made k j l b]) :: bs)
  | _, _ => []
noncomputable def stmtsOf (steps : List Step) : List Stm := let x := stGo 0 steps ([], [[]]); stClose x.1 x.2

/-- the flat row of a stack -/
noncomputable def flatSt : Begun → List (List Stm) → List Step
  | [], b :: _ => flats b
  | (k, l, _) :: bg, b :: bs => flatSt bg bs ++ .beg k l :: flats b
  | _, [] => []
noncomputable def WfSt : Begun → List (List Stm) → Prop
  | [], [b] => Nums 0 b
  | (k, l, j) :: bg, b :: bs => WfSt bg bs ∧ j = (flatSt bg bs).length ∧ (k.left = false → l = .no) ∧ Nums (j + 1) b
  | _, _ => False
/-- a row that never ends what is not begun; blocks and ifs bear no label -/
noncomputable def Fine : Nat → List Step → Prop
  | _, [] => True
  | d, .beg k l :: r => (k.left = false → l = .no) ∧ Fine (d + 1) r
  | 0, .fin :: _ => False
  | d + 1, .fin :: r => Fine d r
  | d, .lead _ _ :: r => Fine d r

theorem wf_len : ∀ (bg : Begun) (bs : List (List Stm)), WfSt bg bs → bs.length = bg.length + 1
  | [], [b], _ => rfl
  | [], [], h => h.elim
  | [], _ :: _ :: _, h => h.elim
  | (k, l, j) :: bg, [], h => h.elim
  | (k, l, j) :: bg, b :: bs, h => by
    have := wf_len bg bs h.1
    simp [this]

theorem wf_top : ∀ (bg : Begun) (b : List Stm) (bs : List (List Stm)) (s : Stm), WfSt bg (b :: bs) → Num (flatSt bg (b :: bs)).length s → WfSt bg ((b ++ [s]) :: bs) ∧ flatSt bg ((b ++ [s]) :: bs) = flatSt bg (b :: bs) ++ flat s
  | [], b, [], s, h, hs => by
    simp only [WfSt, flatSt] at h hs ⊢
    rw [flats_append]
    refine ⟨(nums_append b [s] 0).mpr ⟨h, ?_, trivial⟩, by simp [flats]⟩
    simpa using hs
  | [], b, _ :: _, s, h, hs => h.elim
  | (k, l, j) :: bg, b, bs, s, h, hs => by
    obtain ⟨h1, h2, h3, h4⟩ := h
    simp only [WfSt, flatSt] at hs ⊢
    rw [flats_append]
    refine ⟨⟨h1, h2, h3, (nums_append b [s] (j + 1)).mpr ⟨h4, ?_, trivial⟩⟩, by simp [flats]⟩
    have e : (flatSt bg bs ++ Step.beg k l :: flats b).length = j + 1 + (flats b).length := by
      rw [List.length_append, List.length_cons, ← h2]; omega
    rw [e] at hs
    exact hs

theorem close_wf : ∀ (bg : Begun) (bs : List (List Stm)), WfSt bg bs → Nums 0 (stClose bg bs) ∧ ∃ n, flats (stClose bg bs) = flatSt bg bs ++ List.replicate n .fin
  | [], [b], h => ⟨h, 0, by simp [stClose, flatSt]⟩
  | [], [], h => h.elim
  | [], _ :: _ :: _, h => h.elim
  | (k, l, j) :: bg, [], h => h.elim
  | (k, l, j) :: bg, [b], h => by
    have := wf_len bg [] h.1
    simp at this
  | (k, l, j) :: bg, b :: c :: bs, h => by
    obtain ⟨h1, h2, h3, h4⟩ := h
    obtain ⟨w, e⟩ := wf_top bg c bs (.made k j l b) h1 ⟨h2, h3, by rw [← h2]; exact h4⟩
    obtain ⟨a, n, hn⟩ := close_wf bg ((c ++ [.made k j l b]) :: bs) w
    refine ⟨a, n + 1, ?_⟩
    simp only [stClose]
    rw [hn, e]
    simp [flat, flatSt, List.replicate_succ]

theorem push_wf (s : Step) (bg : Begun) (bs : List (List Stm)) (h : WfSt bg bs) (r : List Step) (hf : Fine bg.length (s :: r)) :
    WfSt (stPush (flatSt bg bs).length s (bg, bs)).1 (stPush (flatSt bg bs).length s (bg, bs)).2 ∧ flatSt (stPush (flatSt bg bs).length s (bg, bs)).1 (stPush (flatSt bg bs).length s (bg, bs)).2 = flatSt bg bs ++ [s] ∧
      Fine (stPush (flatSt bg bs).length s (bg, bs)).1.length r := by
  cases s with
  | beg k l =>
    obtain ⟨h1, h2⟩ : (k.left = false → l = .no) ∧ Fine (bg.length + 1) r := by cases hb : bg.length <;> (rw [hb] at hf; exact hf)
    exact ⟨⟨h, rfl, h1, trivial⟩, by simp [stPush, flatSt, flats], h2⟩
  | lead brk l =>
    have h2 : Fine bg.length r := by cases hb : bg.length <;> (rw [hb] at hf; exact hf)
    cases bs with
    | nil => cases bg <;> exact h.elim
    | cons b bs =>
      obtain ⟨w, e⟩ := wf_top bg b bs (.lead brk (flatSt bg (b :: bs)).length l) h rfl
      exact ⟨w, e, h2⟩
  | fin =>
    cases bg with
    | nil => exact hf.elim
    | cons x bg =>
      obtain ⟨k, l, j⟩ := x
      have h2 : Fine bg.length r := hf
      cases bs with
      | nil => exact h.elim
      | cons b bs =>
        cases bs with
        | nil => have := wf_len bg [] h.1; simp at this
        | cons c bs =>
          obtain ⟨h1, h2', h3, h4⟩ := h
          obtain ⟨w, e⟩ := wf_top bg c bs (.made k j l b) h1 ⟨h2', h3, by rw [← h2']; exact h4⟩
          exact ⟨w, by simp only [stPush]; rw [e]; simp [flat, flatSt], h2⟩

theorem go_wf : ∀ (steps : List Step) (i : Nat) (bg : Begun) (bs : List (List Stm)), WfSt bg bs → i = (flatSt bg bs).length → Fine bg.length steps →
    WfSt (stGo i steps (bg, bs)).1 (stGo i steps (bg, bs)).2 ∧ flatSt (stGo i steps (bg, bs)).1 (stGo i steps (bg, bs)).2 = flatSt bg bs ++ steps
  | [], i, bg, bs, h, _, _ => ⟨h, by simp [stGo]⟩
  | s :: r, i, bg, bs, h, hi, hf => by
    subst hi
    obtain ⟨a, b, c⟩ := push_wf s bg bs h r hf
    simp only [stGo]
    obtain ⟨d, e⟩ := go_wf r ((flatSt bg bs).length + 1) _ _ a (by rw [b]; simp) c
    exact ⟨d, by rw [e, b]; simp⟩

/-- THE PLAIN LAW, its first half: the nested check and the flat reading tell the same -/
theorem plain (steps : List Step) (hf : Fine 0 steps) :
    match chkAll (stmtsOf steps) [] ⟨[], []⟩ with
    | .error j => (readGo 0 steps [] [] []).1 = some j
    | .ok c => readGo 0 steps [] [] [] = (none, c.told, c.led) := by
  obtain ⟨w, e⟩ := go_wf steps 0 [] [[]] trivial (by simp [flatSt, flats]) hf
  obtain ⟨a, n, hn⟩ := close_wf _ _ w
  have e' : flats (stmtsOf steps) = steps ++ List.replicate n .fin := by
    show flats (stClose _ _) = _
    rw [hn, e]
    simp [flatSt, flats]
  have b := reads_flat (stmtsOf steps) 0 [] [] ⟨[], []⟩ a
  rw [List.append_nil, e', readGo_more] at b
  simp only [List.filter_nil] at b
  cases hc : chkAll (stmtsOf steps) [] ⟨[], []⟩ with
  | error j => rw [hc] at b; exact b
  | ok c =>
    rw [hc] at b
    simp only [After, readGo] at b
    exact b

theorem stPush_ne (s : Step) (i : Nat) : ∀ (x : Begun × List (List Stm)), x.2 ≠ [] → (stPush i s x).2 ≠ [] := by
  rintro ⟨bg, bs⟩ h
  cases s with
  | beg k l => simp [stPush]
  | fin =>
    cases bg with
    | nil => exact h
    | cons y bg =>
      obtain ⟨k, l, j⟩ := y
      cases bs with
      | nil => exact h
      | cons b bs =>
        cases bs with
        | nil => exact h
        | cons c bs => simp [stPush]
  | lead brk l =>
    cases bs with
    | nil => exact h
    | cons b bs => simp [stPush]

theorem stmts_ne (steps : List Step) (hf : Fine 0 steps) (h : steps ≠ []) : stmtsOf steps ≠ [] := by
  obtain ⟨w, e⟩ := go_wf steps 0 [] [[]] trivial (by simp [flatSt, flats]) hf
  obtain ⟨a, n, hn⟩ := close_wf _ _ w
  have e' : flats (stmtsOf steps) = steps ++ List.replicate n .fin := by
    show flats (stClose _ _) = _
    rw [hn, e]
    simp [flatSt, flats]
  intro q
  rw [q] at e'
  simp only [flats] at e'
  have := congrArg List.length e'
  simp only [List.length_nil, List.length_append] at this
  exact h (List.length_eq_zero_iff.mp (by omega))

theorem fresh_Base : True := by
  w_top off
  exact trivial
abbrev Ledger := List (Addr × Obj)

theorem room0 {d a b l : Nat} (h : d + b < l) (e : Nat.ble a b = true) : d + a < l := Nat.lt_of_le_of_lt (Nat.add_le_add_left (Nat.le_of_ble_eq_true e) d) h
theorem room1 {d a b c l : Nat} (h : d + b < l) (e : Nat.ble (c + a) b = true) : d + c + a < l := by rw [Nat.add_assoc]; exact room0 h e
theorem News.perm {h₀ h : Heap} {L : Addr} {news news' : Ledger} (N : News h₀ L h news) (s : ∀ p ∈ news', p ∈ news) : News h₀ L h news' := fun p hp => N p (s p hp)

theorem ne_of_lt {l : Addr} {rest : Ledger} (h : AllLt l rest) : ∀ p ∈ rest, p.1 ≠ l := fun p hp => Nat.ne_of_lt (ktn_ltOf h p hp)

theorem ne_of_lt' {l : Addr} {rest : Ledger} (h : ∀ p ∈ rest, p.1 < l) : ∀ p ∈ rest, p.1 ≠ l := fun p hp => Nat.ne_of_lt (h p hp)

abbrev lstO (vs : List Value) (n : Nat) : Obj := listOf vs.toArray n
/-- a tuple, as the ledger writes it -/
abbrev tupOf (its : Array Value) (n : Nat) : Obj := { cls := .type "tuple", data := .seq its n }

section
variable {prog : Program} {w : World} {A : Around} {E : Value → Shared → Prop} {s : Shared} {value slice : PySem.Expr} {h₀ : Heap} {L l : Addr} {news : Ledger} {vs : List Value} {n : Nat} {k : Int} {u : Tok} {v : Value} {Q : Value → Shared → Prop}
theorem item_L (N : News h₀ L s.heap news) (hm : (l, listOf vs.toArray n) ∈ news) (h0 : 0 ≤ k) (hhi : k < 2 ^ 63) (hx : vs[k.toNat]? = some v) (h : Q v s)
    (hs : subscripted slice false (.ref l) (.int k u) = operate [.ref l, .int k u] (getItem (.ref l) (.int k u))) :
    wpAny (model prog w) A (subscriptTail value slice (.ref l) (.int k u)) Q E s :=
  have hl : s.heap.IsList l vs.toArray := ⟨_, (N _ hm).1, rfl, n, rfl⟩
  tail_any hl.typeIs slot_list_getitem.lookup (wpAny_getItem_list hl h0 hhi (by simpa using hx) h) hs
theorem item_T (N : News h₀ L s.heap news) (hm : (l, tupOf vs.toArray n) ∈ news) (h0 : 0 ≤ k) (hhi : k < 2 ^ 63) (hx : vs[k.toNat]? = some v) (h : Q v s)
    (hs : subscripted slice false (.ref l) (.int k u) = operate [.ref l, .int k u] (getItem (.ref l) (.int k u))) :
    wpAny (model prog w) A (subscriptTail value slice (.ref l) (.int k u)) Q E s := by
  have ht : IsTup s.heap l vs.toArray := ⟨_, (N _ hm).1, rfl, n, rfl⟩
  have hlt : k.toNat < vs.length := (List.getElem?_eq_some_iff.mp hx).1
  have hn : k < ((vs.toArray.size : Nat) : Int) := by rw [List.size_toArray]; omega
  exact tail_any ht.typeIs slot_tuple_getitem.lookup (getItem_tuple ht (by omega) hhi (seqIndex_of h0 hn) (by simpa using hx) h) hs
end
theorem ltAll {d : Addr} {l : Ledger} (h : ∀ p ∈ l, p.1 < d) : ∀ p ∈ l, @LT.lt Nat _ p.1 d := h
theorem neLo {a b : Addr} {l : Ledger} {o : Obj} (h : ∀ p ∈ l, @LT.lt Nat _ p.1 b) (m : (a, o) ∈ l) : @Ne Nat a b := Nat.ne_of_lt (h _ m)
theorem neHi {a b : Addr} {l : Ledger} {o : Obj} (h : ∀ p ∈ l, @LT.lt Nat _ p.1 a) (m : (b, o) ∈ l) : @Ne Nat a b := Nat.ne_of_gt (h _ m)
/-- what lies below an address, told of fewer -/
theorem ltSub {d : Addr} {l l' : Ledger} (h : ∀ p ∈ l, @LT.lt Nat _ p.1 d) (s : ∀ p ∈ l', p ∈ l) : ∀ p ∈ l', @LT.lt Nat _ p.1 d := fun p hp => h p (s p hp)
theorem ltLo {a b : Addr} {l : Ledger} {o : Obj} (h : ∀ p ∈ l, @LT.lt Nat _ p.1 b) (m : (a, o) ∈ l) : @LT.lt Nat _ a b := h _ m
theorem allNil9 {P : Addr × Obj → Prop} : ∀ q ∈ ([] : Ledger), P q := fun _ h => nomatch h
theorem allCons9 {P : Addr × Obj → Prop} {a : Addr × Obj} {r : Ledger} (h : P a) (t : ∀ q ∈ r, P q) : ∀ q ∈ a :: r, P q := fun q hq => by
  rcases List.mem_cons.mp hq with rfl | hq
  · exact h
  · exact t q hq
theorem allApp9 {P : Addr × Obj → Prop} {a r : Ledger} (h : ∀ q ∈ a, P q) (t : ∀ q ∈ r, P q) : ∀ q ∈ a ++ r, P q := fun q hq => (List.mem_append.mp hq).elim (h q) (t q)
/-- one more amid what is told of all -/
theorem allMid9 {P : Addr × Obj → Prop} {a r : Ledger} {x : Addr × Obj} (h : ∀ q ∈ a ++ r, P q) (hx : P x) : ∀ q ∈ a ++ (x :: r), P q :=
  allApp9 (fun q hq => h q (List.mem_append_left _ hq)) (allCons9 hx fun q hq => h q (List.mem_append_right _ hq))
theorem allMids9 {P : Addr × Obj → Prop} {a t9 t r : Ledger} (h : ∀ q ∈ a ++ (t ++ r), P q) (hx : ∀ q ∈ t9, P q) : ∀ q ∈ a ++ ((t9 ++ t) ++ r), P q :=
  allApp9 (fun q hq => h q (List.mem_append_left _ hq)) (allApp9 (allApp9 hx fun q hq => h q (List.mem_append_right _ (List.mem_append_left _ hq))) fun q hq => h q (List.mem_append_right _ (List.mem_append_right _ hq)))
theorem ends2 {X : Ledger} {e it : Addr} {oe oi : Obj} (h : ∀ p ∈ X, p.1 ≠ e ∧ p.1 ≠ it) : ∀ p ∈ X, ∀ q ∈ [(e, oe), (it, oi)], p.1 ≠ q.1 := fun p hp q hq => by
  rcases List.mem_cons.mp hq with rfl | hq
  · exact (h p hp).1
  · rcases List.mem_cons.mp hq with rfl | hq
    · exact (h p hp).2
    · exact nomatch hq
theorem its2 {a b : Addr × Obj} {nw all : Ledger} (h : ∀ p ∈ a :: b :: nw, p ∈ all) : ∀ p ∈ [a, b] ++ nw, p ∈ all := h

local macro_rules | `(tactic| lge_bears) => `(tactic| first | (with_reducible assumption) | ((repeat (first | exact List.mem_cons_self | refine List.mem_cons_of_mem _ ?_)); (first | done | assumption)))
local macro_rules | `(tactic| k_lt $h) => `(tactic| replace $h := ltAll $h)
local macro_rules | `(tactic| k_ne) => `(tactic| first | assumption | exact Ne.symm (by assumption) | exact neLo (by assumption) (by lge_bears) | exact neHi (by assumption) (by lge_bears) | exact ltLo (by assumption) (by lge_bears))
local macro_rules | `(tactic| k_slotget) => `(tactic| first | with_reducible assumption | with_reducible exact List.mem_cons_self | (with_reducible refine List.mem_cons_of_mem _ ?_; k_slotget) | (with_reducible refine List.mem_append_left _ ?_; k_slotget) | (with_reducible refine List.mem_append_right _ ?_; k_slotget))
local macro_rules | `(tactic| k_slotset) => `(tactic| first | exact allNil9 | (with_reducible refine allCons9 ?_ ?_; (focus k_slotget); k_slotset) | (with_reducible refine allApp9 ?_ ?_; (focus k_slotset); k_slotset) | (intro p9 hp9; k_slotget))
local macro_rules | `(tactic| k_mem) => `(tactic| lge_bears)
local macro_rules | `(tactic| k_all) => `(tactic| first | assumption | exact ne_of_lt (by assumption) | exact ne_of_lt' (by assumption))
local macro_rules | `(tactic| walk_at "subscriptTail Name Constant ref int") => `(tactic| (k_here; (with_reducible show wpAny _ _ (subscriptTail _ _ (Value.ref _) (Value.int _ _)) _ _ _); (with_unfolding_all refine' item_T ?k0 ?k1 ?k2 ?k3 ?k4 ?_ ?k6; (case k0 => k_asm); (case k1 => lge_bears); (case k2 => decide); (case k3 => decide); (case k4 => (first | rfl | assumption)); (case k6 => with_unfolding_all rfl); k_whole)))
local macro_rules | `(tactic| walk_at "subscriptTail Name Constant ref int") => `(tactic| (k_here; (with_reducible show wpAny _ _ (subscriptTail _ _ (Value.ref _) (Value.int _ _)) _ _ _); (with_unfolding_all refine' item_L ?k0 ?k1 ?k2 ?k3 ?k4 ?_ ?k6; (case k0 => k_asm); (case k1 => lge_bears); (case k2 => decide); (case k3 => decide); (case k4 => (first | rfl | assumption)); (case k6 => with_unfolding_all rfl); k_whole)))
theorem fresh_Ev : True := by
  w_top off
  exact trivial
/-- `k` tokens more -/
noncomputable def tkp (tk k : Nat) : Nat := tk + k
/-- the state with `k` tokens more -/
noncomputable def adv (s : Shared) (k : Nat) : Shared := { s with toks := tkp s.toks k }
/-- the tree `t` comes, `k` tokens on, to `v`, `k'` tokens on, and touches nothing else -/
structure Ev (prog : Program) (w : World) (A : Around) (s : Shared) {α : Type} (k : Nat) (t : Sem α) (v : α) (k' : Nat) : Prop where
  go : ∀ (Q : α → Shared → Prop) (E : Value → Shared → Prop), Q v (adv s k') → wpAny (model prog w) A t Q E (adv s k)
/-- a name bound -/
noncomputable def setm (x : Str) (v : Value) (m : Str → Option Value) : Str → Option Value := fun y => if y = x then some v else m y
/-- what stands behind a statement: the rest of the row -/
noncomputable def thn (M : Model) (A : Around) (env : Env) (rest : List Stmt) (Q : Flow → Shared → Prop) (E : Value → Shared → Prop) : Flow → Shared → Prop :=
  fun f s' => match f with | .next => wpAny M A (execs rest env) Q E s' | f => Q f s'
section
variable {prog : Program} {w : World} {A : Around} {s : Shared} {env : Env}
theorem Ev.run {h : Heap} {g : Array GenState} {d : Drawn} {tk : Nat} {o : OsState} {α : Type} {t : Sem α} {v : α} {k : Nat} {Q : α → Shared → Prop} {E : Value → Shared → Prop} (e : Ev prog w A ⟨h, g, d, tk, o⟩ 0 t v k) (hq : Q v ⟨h, g, d, tkp tk k, o⟩) : wpAny (model prog w) A t Q E ⟨h, g, d, tk, o⟩ := e.go Q E hq
theorem Ev.nL {h₀ : Heap} {L a : Addr} {m : Str → Option Value} {cn : Str} {cs : Scope} {ccd : Value} {cl : List (Str × Addr)} (F : Fr h₀ L s.heap m) (hk : ScopeKind.function = cs.kind) {x : Str} {pos : Pos} {v : Value} {k : Nat} (hv : some v = m x) (hx : some NameKind.local = (envX cn cs L a ccd cl).kindOf x) (hd : false = (x == ("__debug__" : Str))) :
    Ev prog w A s k (eval (.Name x pos) (envX cn cs L a ccd cl)) v k := .mk fun _ _ h => nameX_L (s := adv s k) F hv.symm h hk.symm hx.symm hd.symm
theorem Ev.nK {h₀ : Heap} {L a : Addr} {m mg mb : Str → Option Value} {cn : Str} {cs : Scope} {ccd : Value} {cl : List (Str × Addr)} {K : Frag} {p : Program} {loose : List Str} {mean : ExcName → Option Value} (F : Fr h₀ L s.heap m) (X : K.In h₀) (T : Top p loose mean mg mb h₀) (hk : ScopeKind.function = cs.kind) {x : Str} {pos : Pos} {v : Value} {k : Nat} (hx : some NameKind.globalImplicit = (envX cn cs L a ccd cl).kindOf x) (hd : false = (x == ("__debug__" : Str))) (e : nsIn K mainGlobals x = some (some v)) :
    Ev prog w A s k (eval (.Name x pos) (envX cn cs L a ccd cl)) v k := .mk fun _ _ h => nameX_K (s := adv s k) F X (topRead_of T) e h hk.symm hx.symm hd.symm
theorem Ev.nC {h₀ : Heap} {L a : Addr} {cn : Str} {cs : Scope} {ccd : Value} {cl : List (Str × Addr)} {news : Ledger} (N : News h₀ L s.heap news) (hk : ScopeKind.function = cs.kind) {x : Str} {pos : Pos} {v : Value} {k : Nat} {c : Addr} {o : Obj} (hc : some c = cl.lookup x) (hx : some NameKind.cell = (envX cn cs L a ccd cl).kindOf x) (hd : false = (x == ("__debug__" : Str))) (hm : (c, o) ∈ news) (hv : o.data = .cell (some v)) :
    Ev prog w A s k (eval (.Name x pos) (envX cn cs L a ccd cl)) v k := .mk fun _ _ h => nameX_C (s := adv s k) N hc.symm hm hv h hk.symm hx.symm hd.symm
theorem Ev.int {k : Nat} {i : Int} {q : Nat} {pos : Pos} : Ev prog w A s k (eval (.Constant (.int i) q pos) env) (.int i (tkp s.toks k)) k.succ := .mk fun _ _ h => wpAny_Constant_int h
theorem Ev.str {k : Nat} {x : Str} {q : Nat} {pos : Pos} : Ev prog w A s k (eval (.Constant (.str x) q pos) env) (.str x (tkp s.toks k)) k.succ := .mk fun _ _ h => PySem.Calls.Constant_str h
theorem Ev.none {k q : Nat} {pos : Pos} : Ev prog w A s k (eval (.Constant .none q pos) env) .none k := .mk fun _ _ h => wpAny_Constant_none h
theorem Ev.bool {k : Nat} {b : Bool} {q : Nat} {pos : Pos} : Ev prog w A s k (eval (.Constant (.bool b) q pos) env) (.bool b) k := .mk fun _ _ h => wpAny_Constant_bool h
theorem Ev.cmp {k k1 k2 k3 : Nat} {l r : PySem.Expr} {op : CmpOp} {pos : Pos} {a b c : Value} (h1 : Ev prog w A s k (eval l env) a k1) (h2 : Ev prog w A s k1 (eval r env) b k2) (h3 : Ev prog w A s k2 (compareOp op a b) c k3) (hm : false = behindInMarks op r) :
    Ev prog w A s k (eval (.Compare l [op] [r] pos) env) c k3 := .mk fun _ _ h => wpAny_Compare1 (h1.go _ _ (h2.go _ _ (h3.go _ _ h))) hm.symm
theorem Ev.isT {k k1 k2 k3 : Nat} {l r : PySem.Expr} {op : CmpOp} {pos : Pos} {a b : Value} {c : Bool} {whole : Sem Value} (h1 : Ev prog w A s k (eval l env) a k1) (h2 : Ev prog w A s k1 (eval r env) b k2) (h3 : Ev prog w A s k2 (compareOp op a b) (.bool c) k3) (hm : false = behindInMarks op r) :
    Ev prog w A s k (isTrue (.Compare l [op] [r] pos) env whole) c k3 := .mk fun _ _ h => wpAny_isTrue_Compare1 (h1.go _ _ (h2.go _ _ (h3.go _ _ (wpAny_truthy_bool h)))) hm.symm
theorem Ev.bin {k k1 k2 k3 : Nat} {l r : PySem.Expr} {op : Operator} {pos : Pos} {a b c : Value} (h1 : Ev prog w A s k (eval l env) a k1) (h2 : Ev prog w A s k1 (eval r env) b k2) (h3 : Ev prog w A s k2 (binaryOp op a b) c k3) :
    Ev prog w A s k (eval (.BinOp l op r pos) env) c k3 := .mk fun _ _ h => wpAny_BinOp (h1.go _ _ (h2.go _ _ (h3.go _ _ h)))
theorem Ev.sub {k k1 k2 k3 : Nat} {l r : PySem.Expr} {pos : Pos} {a b c : Value} (h1 : Ev prog w A s k (eval l env) a k1) (h2 : Ev prog w A s k1 (eval r env) b k2) (h3 : Ev prog w A s k2 (subscriptTail l r a b) c k3) :
    Ev prog w A s k (eval (.Subscript l r pos) env) c k3 := .mk fun _ _ h => Subscript_ (h1.go _ _ (h2.go _ _ (h3.go _ _ h)))
theorem Ev.nil {k : Nat} {pos : Pos} : Ev prog w A s k (spliced (backTo pos (starEach [] env))) [] k := .mk fun _ _ h => args_nil h
/-- no starred one -/
noncomputable def plainArg : PySem.Expr → Bool
  | .Starred _ _ => false
  | _ => true
theorem Ev.cons {k k1 k2 : Nat} {e : PySem.Expr} {rest : List PySem.Expr} {pos : Pos} {v : Value} {vs : List Value} (h1 : Ev prog w A s k (eval e env) v k1) (h2 : Ev prog w A s k1 (spliced (backTo pos (starEach rest env))) vs k2) (he : true = plainArg e) :
    Ev prog w A s k (spliced (backTo pos (starEach (e :: rest) env))) (v :: vs) k2 := .mk fun _ _ h => args_cons (h1.go _ _ (h2.go _ _ h)) (by cases e <;> first | rfl | cases he)
theorem Ev.eqS {k : Nat} {x y : Str} {t u : Tok} : Ev prog w A s k (compareOp .Eq (.str x t) (.str y u)) (.bool (x == y)) k := .mk fun _ _ h => eq_str h
theorem Ev.neS {k : Nat} {x y : Str} {t u : Tok} : Ev prog w A s k (compareOp .NotEq (.str x t) (.str y u)) (.bool (x != y)) k := .mk fun _ _ h => ne_str h
theorem Ev.eqI {k : Nat} {x y : Int} {t u : Tok} : Ev prog w A s k (compareOp .Eq (.int x t) (.int y u)) (.bool (x == y)) k := .mk fun _ _ h => eq_int h
theorem Ev.neI {k : Nat} {x y : Int} {t u : Tok} : Ev prog w A s k (compareOp .NotEq (.int x t) (.int y u)) (.bool (x != y)) k := .mk fun _ _ h => ne_int h
theorem Ev.gtI {k : Nat} {x y : Int} {t u : Tok} : Ev prog w A s k (compareOp .Gt (.int x t) (.int y u)) (.bool (decide (y < x))) k := .mk fun _ _ h => gt_int h
theorem Ev.isnN {k : Nat} {v : Value} {b : Bool} (hb : some b = (match v with | .none => some false | .str .. | .int .. | .ref _ => some true | _ => Option.none)) : Ev prog w A s k (compareOp .IsNot v .none) (.bool b) k := .mk fun _ _ h => by
  split at hb
  · cases hb; exact isnot_none_none h
  · cases hb; exact isnot_str_none h
  · cases hb; exact isnot_int_none h
  · cases hb; exact wpAny_isNot_other (by rfl) (by intro x; cases x) h
  · cases hb
theorem Ev.ltI {k : Nat} {x y : Int} {t u : Tok} : Ev prog w A s k (compareOp .Lt (.int x t) (.int y u)) (.bool (decide (x < y))) k := .mk fun _ _ h => lt_int h
theorem Ev.geI {k : Nat} {x y : Int} {t u : Tok} : Ev prog w A s k (compareOp .GtE (.int x t) (.int y u)) (.bool (decide (y ≤ x))) k := .mk fun _ _ h => ge_int h
theorem Ev.neB {k : Nat} {x y : Bool} : Ev prog w A s k (compareOp .NotEq (.bool x) (.bool y)) (.bool (x != y)) k := .mk fun _ _ h => ne_bool h
theorem Ev.attr {k k1 k2 : Nat} {x attr : Str} {xp pos : Pos} {o v : Value} (h1 : Ev prog w A s k (eval (.Name x xp) env) o k1) (h2 : Ev prog w A s k1 (getAttr o attr true) v k2) : Ev prog w A s k (eval (.Attribute (.Name x xp) attr pos) env) v k2 := .mk fun _ _ h => Attribute_Name_ (h1.go _ _ (h2.go _ _ h)) (by with_unfolding_all rfl)
theorem Ev.own {h₀ : Heap} {L x : Addr} {m : Str → Option Value} {K : Frag} {ox : Obj} {C : Addr} {es : List DictEntry} {n : Nat} (F : Fr h₀ L s.heap m) (X : K.In h₀) (I : InstAt s.heap x ox C (some (dictOf es n))) {k : Nat} {name : Str} {expr : Bool} {v : Value} {attr : Option Value} (hg : plainGet K C name = true) (hh : hasDictIn K C = true)
    (ha : findIn K (.ref C) name = some attr) (hn : noGet K attr = true) (hl : some (some v) = getL name es) (hv : true = handedIn v) : Ev prog w A s k (getAttr (.ref x) name expr) v k.succ := .mk fun _ _ h => get_own (s := adv s k) F X I hg hh ha hn hl.symm hv.symm h
theorem Ev.itT {h₀ : Heap} {L : Addr} {news : Ledger} (N : News h₀ L s.heap news) {k : Nat} {value slice : PySem.Expr} {l : Addr} {vs : List Value} {n : Nat} {j : Int} {u : Tok} {v : Value} (hm : (l, tupOf vs.toArray n) ∈ news) (hj : true = (decide (0 ≤ j) && decide (j < 2 ^ 63))) (hx : some v = vs[j.toNat]?)
    (hs : ∀ l j u, subscripted slice false (.ref l) (.int j u) = operate [.ref l, .int j u] (getItem (.ref l) (.int j u))) : Ev prog w A s k (subscriptTail value slice (.ref l) (.int j u)) v k := .mk fun _ _ h => by
  have hj := (Bool.and_eq_true_iff.mp hj.symm)
  exact item_T (s := adv s k) N hm (of_decide_eq_true hj.1) (of_decide_eq_true hj.2) hx.symm h (hs _ _ _)
theorem Ev.itL {h₀ : Heap} {L : Addr} {news : Ledger} (N : News h₀ L s.heap news) {k : Nat} {value slice : PySem.Expr} {l : Addr} {vs : List Value} {n : Nat} {j : Int} {u : Tok} {v : Value} (hm : (l, listOf vs.toArray n) ∈ news) (hj : true = (decide (0 ≤ j) && decide (j < 2 ^ 63))) (hx : some v = vs[j.toNat]?)
    (hs : ∀ l j u, subscripted slice false (.ref l) (.int j u) = operate [.ref l, .int j u] (getItem (.ref l) (.int j u))) : Ev prog w A s k (subscriptTail value slice (.ref l) (.int j u)) v k := .mk fun _ _ h => by
  have hj := (Bool.and_eq_true_iff.mp hj.symm)
  exact item_L (s := adv s k) N hm (of_decide_eq_true hj.1) (of_decide_eq_true hj.2) hx.symm h (hs _ _ _)
theorem Ev.neg {k : Nat} {i : Int} {q : Nat} {p pos : Pos} : Ev prog w A s k (eval (.UnaryOp .USub (.Constant (.int i) q p) pos) env) (.int (-i) (tkp s.toks k.succ)) k.succ.succ := .mk fun _ _ h => wpAny_UnaryOp (wpAny_Constant_int (neg_int h))
theorem Ev.mulI {k : Nat} {x y : Int} {t u : Tok} (h : IntMulOk x y) : Ev prog w A s k (binaryOp .Mult (.int x t) (.int y u)) (.int (x * y) (tkp s.toks k)) k.succ := .mk fun _ _ h' => mul_int h' h
theorem Ev.fdvI {k : Nat} {x y : Int} {t u : Tok} (hy : y ≠ 0) (hp : Builtin.divisionGoesByPylong x y = false) : Ev prog w A s k (binaryOp .FloorDiv (.int x t) (.int y u)) (.int (x.fdiv y) (tkp s.toks k)) k.succ := .mk fun _ _ h => floordiv_int hy h (.inl hp)
theorem Ev.modI {k : Nat} {x y : Int} {t u : Tok} (hy : y ≠ 0) : Ev prog w A s k (binaryOp .Mod (.int x t) (.int y u)) (.int (x.fmod y) (tkp s.toks k)) k.succ := .mk fun _ _ h => mod_int' hy h
theorem Ev.addI {k : Nat} {x y : Int} {t u : Tok} : Ev prog w A s k (binaryOp .Add (.int x t) (.int y u)) (.int (x + y) (tkp s.toks k)) k.succ := .mk fun _ _ h => add_int h
theorem Ev.subI {k : Nat} {x y : Int} {t u : Tok} : Ev prog w A s k (binaryOp .Sub (.int x t) (.int y u)) (.int (x - y) (tkp s.toks k)) k.succ := .mk fun _ _ h => sub_int h
end
section
variable {prog : Program} {w : World} {A : Around} {env : Env} {h : Heap} {g : Array GenState} {d : Drawn} {tk : Nat} {o : OsState} {rest : List Stmt} {Q : Flow → Shared → Prop} {E : Value → Shared → Prop}
theorem ex_cons {M : Model} {st : Stmt} {s : Shared} (h : wpAny M A (exec st env) (thn M A env rest Q E) E s) : wpAny M A (execs (st :: rest) env) Q E s := wpAny_execs_cons h
theorem thn_next {M : Model} {s : Shared} (h : wpAny M A (execs rest env) Q E s) : thn M A env rest Q E .next s := h
theorem thn_nil {M : Model} {s : Shared} (h : Q .next s) : thn M A env [] Q E .next s := wpAny_execs_nil (Q := Q) h
theorem thn_ret {M : Model} {s : Shared} {v : Value} (h : Q (.ret v) s) : thn M A env rest Q E (.ret v) s := h
theorem thn_brk {M : Model} {s : Shared} (h : Q .brk s) : thn M A env rest Q E .brk s := h
theorem ex_if {k : Nat} {test : PySem.Expr} {body orelse : List Stmt} {pos : Pos} {b : Bool} (e : Ev prog w A ⟨h, g, d, tk, o⟩ 0 (isTrue test env (eval test env)) b k)
    (hq : if b = true then wpAny (model prog w) A (execs body env) (thn (model prog w) A env rest Q E) E ⟨h, g, d, tkp tk k, o⟩ else wpAny (model prog w) A (execs orelse env) (thn (model prog w) A env rest Q E) E ⟨h, g, d, tkp tk k, o⟩) :
    wpAny (model prog w) A (execs (.If test body orelse pos :: rest) env) Q E ⟨h, g, d, tk, o⟩ := wpAny_execs_cons (wpAny_If (e.go _ _ hq))
theorem ex_ret {k : Nat} {x : PySem.Expr} {pos : Pos} {v : Value} (e : Ev prog w A ⟨h, g, d, tk, o⟩ 0 (eval x env) v k) (hq : Q (.ret v) ⟨h, g, d, tkp tk k, o⟩) :
    wpAny (model prog w) A (execs (.Return (some x) pos :: rest) env) Q E ⟨h, g, d, tk, o⟩ := wpAny_execs_cons (wpAny_Return_some (e.go _ _ hq))
theorem ex_put {h₀ : Heap} {L a : Addr} {m : Str → Option Value} {cn : Str} {cs : Scope} {ccd : Value} {cl : List (Str × Addr)} {news : Ledger} (F : Fr h₀ L h m) (N : News h₀ L h news) {k : Nat} {x : Str} {pos' pos : Pos} {value : PySem.Expr} {v : Value}
    (e : Ev prog w A ⟨h, g, d, tk, o⟩ 0 (eval value (envX cn cs L a ccd cl)) v k) (hk : ScopeKind.function = cs.kind) (hx : some NameKind.local = (envX cn cs L a ccd cl).kindOf x) (hs : pure false = swapsWith value (some (.Name x pos')) pos.line (envX cn cs L a ccd cl))
    (hq : let m9 := setm x v m; ∀ h' tk', Fr h₀ L h' m9 → News h₀ L h' news → wpAny (model prog w) A (execs rest (envX cn cs L a ccd cl)) Q E ⟨h', g, d, tk', o⟩) :
    wpAny (model prog w) A (execs (.Assign [.Name x pos'] value pos :: rest) (envX cn cs L a ccd cl)) Q E ⟨h, g, d, tk, o⟩ :=
  wpAny_execs_cons (wpAny_Assign_Name (e.go _ _ (storeX_L (s := adv ⟨h, g, d, tk, o⟩ k) F N (fun h' F' N' => hq h' _ F' N') hk.symm hx.symm)) hs.symm)
theorem st_put {h₀ : Heap} {L a : Addr} {m : Str → Option Value} {cn : Str} {cs : Scope} {ccd : Value} {cl : List (Str × Addr)} {news : Ledger} {Qu : Unit → Shared → Prop} (F : Fr h₀ L h m) (N : News h₀ L h news) {x : Str} {v : Value}
    (hk : ScopeKind.function = cs.kind) (hx : some NameKind.local = (envX cn cs L a ccd cl).kindOf x)
    (hq : let m9 := setm x v m; ∀ h' tk', Fr h₀ L h' m9 → News h₀ L h' news → Qu () ⟨h', g, d, tk', o⟩) :
    wpAny (model prog w) A (storeName (envX cn cs L a ccd cl) x v) Qu E ⟨h, g, d, tk, o⟩ := storeX_L (s := ⟨h, g, d, tk, o⟩) F N (fun h' F' N' => hq h' _ F' N') hk.symm hx.symm
theorem st_cel {h₀ : Heap} {L a : Addr} {m : Str → Option Value} {cn : Str} {cs : Scope} {ccd : Value} {cl : List (Str × Addr)} {news : Ledger} {gf : Obj → Ledger} {Qu : Unit → Shared → Prop} (F : Fr h₀ L h m) (N : News h₀ L h news) {x : Str} {v : Value} {c : Addr} {oc : Obj} {v₀ : Option Value}
    (hk : ScopeKind.function = cs.kind) (hx : some NameKind.cell = (envX cn cs L a ccd cl).kindOf x) (hc : some c = cl.lookup x) (U : UpdF c oc news gf) (hd : oc.data = .cell v₀)
    (hq : ∀ o', o'.data = .cell (some v) → let n9 := gf o'; ∀ h', Fr h₀ L h' m → News h₀ L h' n9 → Qu () ⟨h', g, d, tk, o⟩) :
    wpAny (model prog w) A (storeName (envX cn cs L a ccd cl) x v) Qu E ⟨h, g, d, tk, o⟩ := storeX_C (s := ⟨h, g, d, tk, o⟩) F N hc.symm U hd (fun h' o' F' N' d' => hq o' d' h' F' N') hk.symm hx.symm
theorem nw_tup {h₀ : Heap} {L : Addr} {m : Str → Option Value} {news : Ledger} {Qv : Value → Shared → Prop} {vs : List Value} (F : Fr h₀ L h m) (N : News h₀ L h news) (hz : true = Nat.ble vs.length 64)
    (hq : ∀ D, let o9 := tupOf vs.toArray 0; let n9 : Ledger := (D, o9) :: news; ∀ h' tk', Fr h₀ L h' m → News h₀ L h' n9 → (∀ p ∈ news, @LT.lt Nat _ p.1 D) → Qv (.ref D) ⟨h', g, d, tk', o⟩) : wpAny (model prog w) A (newTuple vs) Qv E ⟨h, g, d, tk, o⟩ :=
  kup_newTuple (s := ⟨h, g, d, tk, o⟩) F N (fun D h' F' N' l => hq D h' _ F' N' l) (Nat.le_trans (Nat.le_of_ble_eq_true hz.symm) (by decide))
theorem nw_lst {h₀ : Heap} {L : Addr} {m : Str → Option Value} {news : Ledger} {Qv : Value → Shared → Prop} {vs : List Value} (F : Fr h₀ L h m) (N : News h₀ L h news) (hz : true = Nat.ble vs.length 64)
    (hq : ∀ D, let o9 := listOf vs.toArray 0; let n9 : Ledger := (D, o9) :: news; ∀ h' tk', Fr h₀ L h' m → News h₀ L h' n9 → (∀ p ∈ news, @LT.lt Nat _ p.1 D) → Qv (.ref D) ⟨h', g, d, tk', o⟩) : wpAny (model prog w) A (newList vs) Qv E ⟨h, g, d, tk, o⟩ :=
  newList_K (s := ⟨h, g, d, tk, o⟩) F N (fun D h' F' N' l => hq D h' _ F' N' l) (Nat.le_trans (Nat.le_of_ble_eq_true hz.symm) (by decide))
theorem any_plain {pos : Pos} : ∀ {rest : List PySem.Expr}, true = rest.all plainArg → (backTo pos (starEach rest env)).any (·.1) = false
  | [], _ => rfl
  | e :: r, hp => by
    have hp' := Bool.and_eq_true_iff.mp (show (plainArg e && r.all plainArg) = true from hp.symm)
    have he : starEach (e :: r) env = (false, eval e env) :: starEach r env := by cases e <;> first | rfl | cases hp'.1
    rw [he]
    exact any_plain hp'.2.symm
theorem ev_call {h₀ : Heap} {L : Addr} {m : Str → Option Value} {K : Frag} {Qv : Value → Shared → Prop} (F : Fr h₀ L h m) (X : K.In h₀) {k1 k2 : Nat} {x : Str} {xp pos : Pos} {e : PySem.Expr} {es : List PySem.Expr} {f : Value} {vs : List Value}
    (e1 : Ev prog w A ⟨h, g, d, tk, o⟩ 0 (eval (.Name x xp) env) f k1) (hk : keepIn K f = true) (e2 : Ev prog w A ⟨h, g, d, tk, o⟩ k1 (spliced (backTo pos (starEach (e :: es) env))) vs k2) (hp : true = (e :: es).all plainArg)
    (hq : wpAny (model prog w) A (call f vs) Qv E ⟨h, g, d, tkp tk k2, o⟩) : wpAny (model prog w) A (eval (.Call (.Name x xp) (e :: es) [] pos) env) Qv E ⟨h, g, d, tk, o⟩ := by
  have hp' := Bool.and_eq_true_iff.mp (show (plainArg e && es.all plainArg) = true from hp.symm)
  refine Call_ (e1.go _ _ (callWith_K X hk (e2.go _ _ ⟨X.keeps F.keep, hq⟩) ?_ (any_plain hp'.2.symm)))
  cases e <;> first | rfl | cases hp'.1
theorem ev_tuple {h₀ : Heap} {L : Addr} {m : Str → Option Value} {news : Ledger} {Qv : Value → Shared → Prop} (F : Fr h₀ L h m) (N : News h₀ L h news) {k q : Nat} {pos : Pos} {es : List PySem.Expr} {vs : List Value} (e : Ev prog w A ⟨h, g, d, tk, o⟩ 0 (spliced (backTo pos (starEach es env))) vs k) (hz : true = Nat.ble vs.length 64)
    (hq : ∀ D, let o9 := tupOf vs.toArray 0; let n9 : Ledger := (D, o9) :: news; ∀ h' tk', Fr h₀ L h' m → News h₀ L h' n9 → (∀ p ∈ news, @LT.lt Nat _ p.1 D) → Qv (.ref D) ⟨h', g, d, tk', o⟩) : wpAny (model prog w) A (eval (.Tuple es q pos) env) Qv E ⟨h, g, d, tk, o⟩ :=
  Tuple_ (e.go _ _ (nw_tup F N hz hq))
theorem ev_list {h₀ : Heap} {L : Addr} {m : Str → Option Value} {news : Ledger} {Qv : Value → Shared → Prop} (F : Fr h₀ L h m) (N : News h₀ L h news) {k : Nat} {pos : Pos} {es : List PySem.Expr} {vs : List Value} (e : Ev prog w A ⟨h, g, d, tk, o⟩ 0 (spliced (backTo pos (starEach es env))) vs k) (hz : true = Nat.ble vs.length 64)
    (hq : ∀ D, let o9 := listOf vs.toArray 0; let n9 : Ledger := (D, o9) :: news; ∀ h' tk', Fr h₀ L h' m → News h₀ L h' n9 → (∀ p ∈ news, @LT.lt Nat _ p.1 D) → Qv (.ref D) ⟨h', g, d, tk', o⟩) : wpAny (model prog w) A (eval (.List es pos) env) Qv E ⟨h, g, d, tk, o⟩ :=
  List_ (e.go _ _ (nw_lst F N hz hq))
end

local macro_rules | `(tactic| walk_at "pe") => `(tactic| first | with_reducible exact Ev.int | with_reducible exact Ev.str | with_reducible exact Ev.none | with_reducible exact Ev.nil | with_reducible exact Ev.bool | ((with_reducible apply Ev.cons); walk_at "pe"; walk_at "pe"; exact rfl) | ((with_reducible apply Ev.sub); walk_at "pe"; walk_at "pe"; walk_at "pe") | ((with_reducible apply Ev.cmp); walk_at "pe"; walk_at "pe"; walk_at "pe"; exact rfl) | ((with_reducible apply Ev.isT); walk_at "pe"; walk_at "pe"; walk_at "pe"; exact rfl) | ((with_reducible apply Ev.bin); walk_at "pe"; walk_at "pe"; walk_at "pe") | ((with_reducible apply Ev.itT); k_asm; (focus lge_bears); exact rfl; (first | exact rfl | exact Eq.symm (by assumption)); exact fun _ _ _ => rfl) | ((with_reducible apply Ev.itL); k_asm; (focus lge_bears); exact rfl; (first | exact rfl | exact Eq.symm (by assumption)); exact fun _ _ _ => rfl) | with_reducible exact Ev.eqS | with_reducible exact Ev.neS | with_reducible exact Ev.eqI | with_reducible exact Ev.neI | with_reducible exact Ev.gtI | with_reducible exact Ev.ltI | with_reducible exact Ev.geI | with_reducible exact Ev.neB | with_reducible exact Ev.addI | with_reducible exact Ev.subI | with_reducible exact Ev.neg | ((with_reducible apply Ev.modI); (first | assumption | decide)) | ((with_reducible apply Ev.mulI); mul_fits) | ((with_reducible apply Ev.fdvI); (first | assumption | decide); (first | exact PyProof.noPylong_of_log2 (by decide +kernel) | exact PyProof.noPylong_small (by omega))) | ((with_reducible apply Ev.isnN); exact rfl) | ((with_reducible apply Ev.attr); walk_at "pe"; walk_at "pe") | ((with_reducible apply Ev.own); k_asm; k_asm; (focus k_inst); k_is; k_is; k_is; k_is; (focus k_get); exact rfl) | ((with_reducible show Ev _ _ _ _ _ (eval (PySem.Expr.Name _ _) _) _ _); first | (apply Ev.nL; k_asm; exact rfl; exact rfl; exact rfl; exact rfl) | (apply Ev.nC; k_asm; exact rfl; exact rfl; exact rfl; exact rfl; (focus lge_bears); k_asm) | (apply Ev.nK; k_asm; k_asm; k_asm; exact rfl; exact rfl; exact rfl; k_is)))
local macro_rules | `(tactic| walk_at "ev") => `(tactic| (k_here; k_dflt (refine' Ev.run ?e ?_; (case e => walk_at "pe")); k_whole))
local macro_rules | `(tactic| walk_at "eval Compare") => `(tactic| walk_at "ev")
local macro_rules | `(tactic| walk_at "eval Subscript") => `(tactic| walk_at "ev")
local macro_rules | `(tactic| walk_at "eval BinOp") => `(tactic| walk_at "ev")
local macro_rules | `(tactic| walk_at "isTrue Compare") => `(tactic| walk_at "ev")
local macro_rules | `(tactic| walk_at "spliced") => `(tactic| walk_at "ev")
local macro_rules | `(tactic| walk_at "execs cons") => `(tactic| (refine ex_cons ?_))
local macro_rules | `(tactic| walk_at "exec If") => `(tactic| refine wpAny_If ?_)
local macro_rules | `(tactic| walk_at "execs nil") => `(tactic| refine wpAny_execs_nil ?_)
local macro_rules | `(tactic| walk_at "execs cons If") => `(tactic| (k_here; k_dflt (refine' ex_if ?e ?_; (case e => walk_at "pe")); k_whole))
local macro_rules | `(tactic| walk_at "execs cons Return") => `(tactic| (k_here; k_dflt (refine' ex_ret ?e ?_; (case e => walk_at "pe")); k_whole))
local macro_rules | `(tactic| walk_at "execs cons Assign") => `(tactic| (k_here; (with_reducible show wpAny _ _ (execs (Stmt.Assign [PySem.Expr.Name _ _] _ _ :: _) _) _ _ _); k_dflt (refine' ex_put ?F ?N ?e ?a ?b ?c ?_; (case F => k_asm); (case N => k_asm); (case e => walk_at "pe"); (case a => exact rfl); (case b => exact rfl); (case c => exact rfl)); k_whole; intro m9 h' tk' F' N'; (try k_sweep)))
local macro_rules | `(tactic| k_steps) => `(tactic| repeat' (first | with_reducible (first | refine thn_nil ?_ | refine thn_next ?_ | refine thn_ret ?_ | refine thn_brk ?_) | (k_unfold; (try dsimp only)) | (k_end; wrow_close) | walk1 | (dsimp only; walk1) | (leave1; try dsimp only) | fail "no step"))
local macro_rules | `(tactic| walk_at "eval Call Name") => `(tactic| (k_here; k_dflt ((with_reducible refine' ev_call ?F ?X ?e ?k ?v ?p ?_); (case F => k_asm); (case X => k_asm); (case e => walk_at "pe"); (case k => k_is); (case v => walk_at "pe"); (case p => exact rfl)); k_whole))
local macro_rules | `(tactic| walk_at "eval Tuple") => `(tactic| (k_here; k_dflt (refine' ev_tuple ?F ?N ?e ?z ?_; (case F => k_asm); (case N => k_asm); (case e => walk_at "pe"); (case z => exact rfl)); k_whole; intro D' o9 n9 h' tk' F' N' l1; (try k_sweep)))
local macro_rules | `(tactic| walk_at "eval List") => `(tactic| (k_here; k_dflt (refine' ev_list ?F ?N ?e ?z ?_; (case F => k_asm); (case N => k_asm); (case e => walk_at "pe"); (case z => exact rfl)); k_whole; intro D' o9 n9 h' tk' F' N' l1; (try k_sweep)))
local macro_rules | `(tactic| walk_at "storeName") => `(tactic| (k_here; k_dflt (first | (refine st_put (by k_asm) (by k_asm) rfl rfl ?_; intro m9 h' tk' F' N') | (refine st_cel (by k_asm) (by k_asm) rfl rfl rfl (by k_updF) (by k_asm) ?_; intro o' d' n9 h' F' N')); (try k_sweep)))
local macro_rules | `(tactic| walk_at "newTuple") => `(tactic| (k_here; k_dflt (refine nw_tup (by k_asm) (by k_asm) rfl ?_); intro D' o9 n9 h' tk' F' N' l1; (try k_sweep)))
local macro_rules | `(tactic| walk_at "newList") => `(tactic| (k_here; k_dflt (refine nw_lst (by k_asm) (by k_asm) rfl ?_); intro D' o9 n9 h' tk' F' N' l1; (try k_sweep)))
theorem fresh_Ent : True := by
  w_top off
  exact trivial
abbrev nvr : Value → Shared → Prop := fun _ _ => False
noncomputable def flv : Flow → Value
  | .ret v => v
  | _ => .none
noncomputable def Con (w : World) (f : Addr) (dn un : Nat) (vs : List Value) (news : Ledger) (R : (Value → Ledger → Prop) → Prop) : Prop :=
  ∀ (p : Program) (loose : List Str) (mean : ExcName → Option Value) (mg mb : Str → Option Value) (dp u : Nat) (gd : Option (List Code)) (cn : Str) (cs : Scope) (a : Addr) (ccd : Value) (cl : List (Str × Addr)) (outer : List Env) (A₀ : Around) (base h₀ : Heap) (L : Addr) (m : Str → Option Value) (h : Heap) (g : Array GenState) (d : Drawn) (tk : Nat) (o : OsState)
    (Q : Value → Shared → Prop),
    Below A₀ base outer h₀ → (K4 w.params).In h₀ → Top p loose mean mg mb h₀ → cs.kind = .function → dp + dn < recursionLimit → u + un < cLine → Fr h₀ L h m → News h₀ L h news →
    R (fun r news' => let n9 := news'; ∀ h' tk', Fr h₀ L h' m → News h₀ L h' n9 → Q r ⟨h', g, d, tk', o⟩) →
    wpAny (model PySem.Challenge.rw_xw0043_01.row.prog w) (ktrTop dp u gd cn cs L a ccd cl outer) (call (.ref f) vs) Q nvr ⟨h, g, d, tk, o⟩
theorem con_enter {w : World} {f : Addr} {dn un : Nat} {vs : List Value} {news : Ledger} {R : (Value → Ledger → Prop) → Prop} {name qual : Str} {params : Arguments} {body : List Stmt} {scope : Scope} {dV kV doc pm cdv ct oc : Value} {an od : Option Addr} {osl : Array (Option Value)} {binds : List (Str × Value)}
    (ho : (K4 w.params).lookup f = some ⟨oc, od, .func (fnOf name qual params body scope dV kV doc pm an cdv ct), osl⟩) (hcd : codeIn (K4 w.params) cdv qual = true)
    (hbind : ∀ s, BindsTo s (fnOf name qual params body scope dV kV doc pm an cdv ct) ⟨vs, []⟩ binds) (hloc : true = binds.all fun y => decide (scope.names.lookup y.1 = some .local))
    (hfl : true = (!scope.isCoroutine && !scope.isGenerator && (scope.kind == .function) && scope.names.all fun x => x.2 != .cell))
    (body_ : ∀ (p : Program) (loose : List Str) (mean : ExcName → Option Value) (mg mb : Str → Option Value) (dp u : Nat) (gd : Option (List Code)) (outer : List Env) (A : Around) (base g : Heap) (L : Addr) (h : Heap) (g9 : Array GenState) (d9 : Drawn) (tk : Nat) (o9 : OsState) (K : Value → Ledger → Prop) (Q : Flow → Shared → Prop),
      Below A base outer g → (K4 w.params).In g → Top p loose mean mg mb g → dp + dn < recursionLimit → u + un < cLine → R K → (∀ fl n' h' tk' m', Fr g L h' m' → News g L h' n' → K (flv fl) n' → Q fl ⟨h', g9, d9, tk', o9⟩) →
      let e9 := envX qual scope L f cdv []; let a9 := ktrTop dp u gd qual scope L f cdv [] outer; let m9 := fun y => binds.reverse.lookup y
      Fr g L h m9 → News g L h news → wpAny (model PySem.Challenge.rw_xw0043_01.row.prog w) a9 (execs body e9) Q nvr ⟨h, g9, d9, tk, o9⟩) : Con w f (dn + 1) (un + 3) vs news R := by
  intro p loose mean mg mb dp u gd cn cs a ccd cl outer A₀ base h₀ L m h g d tk o Q B X T hk hd hu F N hR
  simp only [Bool.true_eq, Bool.and_eq_true, Bool.not_eq_true', beq_iff_eq] at hfl
  obtain ⟨⟨⟨hco, hgen⟩, hkd⟩, hcell⟩ := hfl
  have hc' : ∀ x ∈ scope.names, x.2 ≠ .cell := fun x hx => by
    have := List.all_eq_true.mp hcell x hx
    simpa using this
  refine wpAny_call (code_def B F X N T rfl rfl hk ho hcd (by show dp < recursionLimit; omega) (hbind _) (locs hloc.symm) (fun g₁ L' h₁ FG F' N' B' X' T' => ?_) hco hgen hkd hc')
  refine wpAny_mono (E := nvr) ?_ (fun _ _ x => x) fun _ _ q => q.elim
  refine body_ p loose mean mg mb (dp + 1) (u + 3) _ (envX cn cs L a ccd cl :: outer) _ base g₁ L' h₁ g d _ o (fun r n' => ∀ h' tk', Fr h₀ L h' m → News h₀ L h' n' → Q r ⟨h', g, d, tk', o⟩) _ B' X' T' (by omega) (by omega) hR (fun fl n' h' tk' m' F₂ N₂ k => leaveK_ F₂ N₂ fun F₃ N₃ => ?_) F' N'
  cases fl <;> exact k _ _ F₃ N₃
theorem con_enter2 {w : World} {f : Addr} {dn un : Nat} {vs : List Value} {news : Ledger} {R : (Value → Ledger → Prop) → Prop} {name qual : Str} {params : Arguments} {body : List Stmt} {scope : Scope} {dV kV doc pm cdv ct oc : Value} {an od : Option Addr} {osl : Array (Option Value)} {binds : List (Str × Value)} {x1 x2 : Str}
    (ho : (K4 w.params).lookup f = some ⟨oc, od, .func (fnOf name qual params body scope dV kV doc pm an cdv ct), osl⟩) (hcd : codeIn (K4 w.params) cdv qual = true)
    (hbind : ∀ s, BindsTo s (fnOf name qual params body scope dV kV doc pm an cdv ct) ⟨vs, []⟩ binds) (hkind : (binds.all fun y => scope.names.lookup y.1 == some .local || scope.names.lookup y.1 == some .cell) = true)
    (hfl : true = (!scope.isCoroutine && !scope.isGenerator && (scope.kind == .function))) (hnd : ((cellsFrom 0 scope.names []).map (·.1)).Nodup) (hce : ∀ L, cellsFrom (L + 1) scope.names [] = [(x2, L + 1 + 1), (x1, L + 1)])
    (hno : ∀ L, none = bindC (envOfC qual scope L f cdv).kindOf binds (fun _ => none) x1 ∧ none = bindC (envOfC qual scope L f cdv).kindOf binds (fun _ => none) x2)
    (body_ : ∀ (p : Program) (loose : List Str) (mean : ExcName → Option Value) (mg mb : Str → Option Value) (dp u : Nat) (gd : Option (List Code)) (outer : List Env) (A : Around) (base g : Heap) (L : Addr) (h : Heap) (g9 : Array GenState) (d9 : Drawn) (tk : Nat) (o9 : OsState) (K : Value → Ledger → Prop) (Q : Flow → Shared → Prop) (o1 o2 : Obj),
      Below A base outer g → (K4 w.params).In g → Top p loose mean mg mb g → dp + dn < recursionLimit → u + un < cLine → R K → (∀ fl n' h' tk' m', Fr g L h' m' → News g L h' n' → K (flv fl) n' → Q fl ⟨h', g9, d9, tk', o9⟩) → o1.data = .cell none → o2.data = .cell none → (∀ p ∈ news, @LT.lt Nat _ p.1 L) →
      let e9 := envX qual scope L f cdv [(x2, L + 1 + 1), (x1, L + 1)]; let a9 := ktrTop dp u gd qual scope L f cdv [(x2, L + 1 + 1), (x1, L + 1)] outer; let m9 := bindL (envOfC qual scope L f cdv).kindOf binds fun _ => none; let n9 : Ledger := (L + 1 + 1, o2) :: (L + 1, o1) :: news
      Fr g L h m9 → News g L h n9 → wpAny (model PySem.Challenge.rw_xw0043_01.row.prog w) a9 (execs body e9) Q nvr ⟨h, g9, d9, tk, o9⟩) : Con w f (dn + 1) (un + 3) vs news R := by
  intro p loose mean mg mb dp u gd cn cs a ccd cl outer A₀ base h₀ L m h g d tk o Q B X T hk hd hu F N hR
  simp only [Bool.true_eq, Bool.and_eq_true, Bool.not_eq_true', beq_iff_eq] at hfl
  obtain ⟨⟨hco, hgen⟩, hkd⟩ := hfl
  refine wpAny_call (code_defC B F X N T rfl rfl hk ho hcd (by show dp < recursionLimit; omega) (hbind _) hkind hnd (fun g₁ L' h₁ tk₁ cells FG F' N' Y B' X' T' lt => ?_) hco hgen hkd)
  have Y := hce L' ▸ Y
  obtain ⟨o2, o1, rfl, d2, d1⟩ := Y.two
  have e0 : envOfC qual scope L' f cdv = envX qual scope L' f cdv [(x2, L' + 1 + 1), (x1, L' + 1)] := by unfold envOfC; rw [hce L']
  rw [e0]
  refine wpAny_mono (E := nvr) ?_ (fun _ _ x => x) fun _ _ q => q.elim
  refine body_ p loose mean mg mb (dp + 1) (u + 3) _ (envX cn cs L a ccd cl :: outer) _ base g₁ L' h₁ g d tk₁ o (fun r n' => ∀ h' tk', Fr h₀ L h' m → News h₀ L h' n' → Q r ⟨h', g, d, tk', o⟩) _ o1 o2 B' X' T' (by omega) (by omega) hR (fun fl n' h' tk' m' F₂ N₂ k => leaveK_ F₂ N₂ fun F₃ N₃ => ?_) (d1.trans (congrArg _ (hno L').1.symm)) (d2.trans (congrArg _ (hno L').2.symm)) lt F' N'
  cases fl <;> exact k _ _ F₃ N₃
theorem Con.use {w : World} {f : Addr} {dn un : Nat} {vs : List Value} {news : Ledger} {R : (Value → Ledger → Prop) → Prop} {p : Program} {loose : List Str} {mean : ExcName → Option Value} {mg mb : Str → Option Value} {dp u : Nat} {gd : Option (List Code)} {cn : Str} {cs : Scope} {a : Addr} {ccd : Value} {cl : List (Str × Addr)} {outer : List Env} {A₀ : Around} {base h₀ : Heap} {L : Addr} {m : Str → Option Value} {h : Heap} {g : Array GenState} {d : Drawn} {tk : Nat} {o : OsState}
    {Q E : Value → Shared → Prop} (B : Below A₀ base outer h₀) (X : (K4 w.params).In h₀) (T : Top p loose mean mg mb h₀) (hk : ScopeKind.function = cs.kind) (hd : dp + dn < recursionLimit) (hu : u + un < cLine) (F : Fr h₀ L h m) (N : News h₀ L h news) (C : Con w f dn un vs news R)
    (ret : R (fun r news' => let n9 := news'; ∀ h' tk', Fr h₀ L h' m → News h₀ L h' n9 → Q r ⟨h', g, d, tk', o⟩)) : wpAny (model PySem.Challenge.rw_xw0043_01.row.prog w) (ktrTop dp u gd cn cs L a ccd cl outer) (call (.ref f) vs) Q E ⟨h, g, d, tk, o⟩ :=
  wpAny_mono (C p loose mean mg mb dp u gd cn cs a ccd cl outer A₀ base h₀ L m h g d tk o Q B X T hk.symm hd hu F N ret) (fun _ _ x => x) fun _ _ x => x.elim
theorem Con.at {w : World} {f : Addr} {dn un : Nat} {vs : List Value} {sp : Addr} {o : Obj} {news : Ledger} {gf : Obj → Ledger} {P : (Value → Obj → Prop) → Prop} (mono : ∀ K₁ K₂ : Value → Obj → Prop, (∀ r o', K₁ r o' → K₂ r o') → P K₁ → P K₂) (U : UpdF sp o news gf)
    (C : ∀ rest : Ledger, (∀ p ∈ rest, p.1 ≠ sp) → (∀ p ∈ news, p.1 ≠ sp → p ∈ rest) → Con w f dn un vs ((sp, o) :: rest) (fun K => P fun r o' => K r ((sp, o') :: rest))) : Con w f dn un vs news (fun K => P fun r o' => K r (gf o')) := by
  obtain ⟨pre, post, rfl, hg, h1, h2⟩ := U.split
  have mid : ∀ {x p : Addr × Obj}, p ∈ x :: (pre ++ post) ↔ p ∈ pre ++ x :: post := fun {x p} => by
    simp only [List.mem_append, List.mem_cons]
    exact or_left_comm
  intro p loose mean mg mb dp u gd cn cs a ccd cl outer A₀ base h₀ L m h g d tk o9 Q B X T hk hd hu F N ret
  refine C (pre ++ post) (fun p hp => (List.mem_append.mp hp).elim (h1 p) (h2 p)) (fun p hp hne => ?_) p loose mean mg mb dp u gd cn cs a ccd cl outer A₀ base h₀ L m h g d tk o9 Q B X T hk hd hu F (N.perm fun p hp => mid.mp hp) (mono _ _ (fun r o' k h' tk' F' N' => ?_) ret)
  · rcases List.mem_cons.mp (mid.mpr hp) with rfl | hp
    · exact absurd rfl hne
    · exact hp
  · exact k h' tk' F' (N'.perm fun q hq => mid.mpr (hg o' ▸ hq))
theorem Con.mono {w : World} {f : Addr} {dn un : Nat} {vs : List Value} {news : Ledger} {R R' : (Value → Ledger → Prop) → Prop} (i : ∀ K, R' K → R K) (C : Con w f dn un vs news R) : Con w f dn un vs news R' :=
  fun p loose mean mg mb dp u gd cn cs a ccd cl outer A₀ base h₀ L m h g d tk o Q B X T hk hd hu F N ret => C p loose mean mg mb dp u gd cn cs a ccd cl outer A₀ base h₀ L m h g d tk o Q B X T hk hd hu F N (i _ ret)

theorem fill_K (w : World) : (K4 w.params, PySem.Challenge.rw_xw0043_01) = (K4 w.params, PySem.Challenge.rw_xw0043_01) := by k_fill; exact rfl
local macro_rules | `(tactic| lgec_go) => `(tactic| first | exact room0 (by assumption) rfl | exact room1 (by assumption) rfl | ktr_room | ktr_units)
local macro_rules | `(tactic| ktr_room) => `(tactic| (have hrL9 : recursionLimit = 1000 := rfl; (try simp only [depth_under_make, depth_under_kw, depth_in1, depth_deeper, depth_caller]); (try dsimp only [ktrTop]); omega))
theorem fresh_App : True := by
  w_top off
  exact trivial
/-- the goal behind a name, ahead of a row of obtain -/
theorem hideG {P : Prop} (f : ∀ X : Prop, (P → X) → X) : P := f P id
theorem setm_id {m : Str → Option Value} {y : Str} {v : Value} (e : m y = some v) : setm y v m = m := by
  funext z
  unfold setm
  by_cases h : z = y
  · rw [if_pos h, h, e]
  · rw [if_neg h]
theorem frSet {h₀ h : Heap} {L : Addr} {m : Str → Option Value} {y : Str} {v : Value} (F : Fr h₀ L h m) (e : m y = some v) : Fr h₀ L h (setm y v m) := (setm_id e).symm ▸ F
theorem frSet2 {h₀ h : Heap} {L : Addr} {m : Str → Option Value} {x y : Str} {u v : Value} (F : Fr h₀ L h m) (e' : m x = some u) (e : m y = some v) : Fr h₀ L h (setm y v (setm x u m)) := (setm_id e').symm ▸ frSet F e
theorem frSet3 {h₀ h : Heap} {L : Addr} {m : Str → Option Value} {x y z : Str} {u v t : Value} (F : Fr h₀ L h m) (e' : m x = some u) (e : m y = some v) (e3 : m z = some t) : Fr h₀ L h (setm z t (setm y v (setm x u m))) := (setm_id e').symm ▸ frSet2 F e e3
/-- the frame and the ledger behind two names -/
theorem setFN {P : Prop} {h₀ h : Heap} {L : Addr} {m : Str → Option Value} {news : Ledger} (F : Fr h₀ L h m) (N : News h₀ L h news) (k : let m9 := m; let n9 := news; Fr h₀ L h m9 → News h₀ L h n9 → P) : P := k F N
section
variable {prog : Program} {w : World} {A : Around} {env : Env} {h : Heap} {g : Array GenState} {d : Drawn} {tk : Nat} {o : OsState} {rest : List Stmt} {Q : Flow → Shared → Prop} {E : Value → Shared → Prop} {h₀ : Heap} {L : Addr} {m : Str → Option Value} {news : Ledger}
/-- «a, b = a tuple of the ledger» -/
theorem as_two {a : Addr} {cn : Str} {cs : Scope} {ccd : Value} {cl : List (Str × Addr)} {Qu : Unit → Shared → Prop} (F : Fr h₀ L h m) (N : News h₀ L h news) {xa xb : Str} {pa pb pos : Pos} {q n : Nat} {t : Addr} {v0 v1 : Value} (hm : (t, tupOf #[v0, v1] n) ∈ news) (hh : none = A.handled)
    (hk : ScopeKind.function = cs.kind) (ha : some NameKind.local = (envX cn cs L a ccd cl).kindOf xa) (hb : some NameKind.local = (envX cn cs L a ccd cl).kindOf xb)
    (hq : let m9 := setm xb v1 (setm xa v0 m); ∀ h' tk', Fr h₀ L h' m9 → News h₀ L h' news → Qu () ⟨h', g, d, tk', o⟩) :
    wpAny (model prog w) A (assign (.Tuple [.Name xa pa, .Name xb pb] q pos) (envX cn cs L a ccd cl) (.ref t)) Qu E ⟨h, g, d, tk, o⟩ :=
  unpackN_ (s := ⟨h, g, d, tk, o⟩) F N (N.isTup hm) hh.symm rfl rfl fun _ F₁ N₁ => assignInOrder_cons (wpAny_assign_Name (storeX_L (s := ⟨_, g, d, tk, o⟩) F₁ N₁ (fun _ F₂ N₂ => assignInOrder_cons (wpAny_assign_Name (storeX_L F₂ N₂ (fun h' F₃ N₃ => assignInOrder_nil (hq h' _ F₃ N₃)) hk.symm hb.symm))) hk.symm ha.symm))
theorem up_own {Qv : List Value → Shared → Prop} {t k n : Nat} {its : Array Value} (F : Fr h₀ L h m) (N : News h₀ L h news) (hm : (t, tupOf its n) ∈ news) (hh : none = A.handled) (hn : k = its.size)
    (hq : ∀ h', Fr h₀ L h' m → News h₀ L h' news → Qv its.toList ⟨h', g, d, tk, o⟩) : wpAny (model prog w) A (unpackItems (.ref t) k none) Qv E ⟨h, g, d, tk, o⟩ :=
  unpackItemsN_ (s := ⟨h, g, d, tk, o⟩) F N (N.isTup hm) hh.symm hn hq
/-- a_list.append(x), called -/
theorem ap_own {Qv : Value → Shared → Prop} {D : Addr} {xs : List Value} {n : Nat} {x : Value} {gf : Obj → Ledger} (F : Fr h₀ L h m) (N : News h₀ L h news) (U : UpdF D (listOf xs.toArray n) news gf) (hz : xs.length ≤ 1000)
    (hq : let n9 := gf (listOf (xs ++ [x]).toArray (n + 1)); ∀ h', Fr h₀ L h' m → News h₀ L h' n9 → Qv .none ⟨h', g, d, tk, o⟩) : wpAny (model prog w) A (call (.builtin "list.append") [.ref D, x]) Qv E ⟨h, g, d, tk, o⟩ := by
  obtain ⟨pre, post, rfl, hg, a, b⟩ := U.split
  have z := N (D, listOf xs.toArray n) (List.mem_append.mpr (.inr (.head _)))
  refine append_at (hsz := ?_) z.1 fun h' hs ho' => hq h' (F.change hs z.2.1 z.2.2) ?_
  · rw [hg]
    rw [List.push_toArray] at ho'
    exact news_set N a b hs ho'
  · rw [List.size_toArray, sizeLine_eq]; omega
/-- the statement «a_list.append(x)» -/
theorem ex_app {K : Frag} (F : Fr h₀ L h m) (N : News h₀ L h news) (X : K.In h₀) (hk : keepIn K (.builtin "list.append") = true) {k1 k2 n : Nat} {ob e : PySem.Expr} {ap pos pos' : Pos} {D : Addr} {xs : List Value} {x : Value} {gf : Obj → Ledger}
    (e1 : Ev prog w A ⟨h, g, d, tk, o⟩ 0 (eval ob env) (.ref D) k1) (U : UpdF D (listOf xs.toArray n) news gf) (e2 : Ev prog w A ⟨h, g, d, tk, o⟩ k1 (spliced (backTo pos (starEach [e] env))) [x] k2) (hz : xs.length ≤ 1000)
    (hp : true = plainArg e) {pl : Sem Bool} (he : eval (.Call (.Attribute ob (Str.ofString "append") ap) [e] [] pos) env = (do
      let ov ← eval ob env
      standAt ap.atName
      let (f, first) ← holding [ov] (getMethod ov (Str.ofString "append") pl)
      callWith pos f first (backTo pos (starEach [e] env)) (backToKw pos (keywordEach [] env)))) (hi : false = interactive env) (hs : pure false = swapsWith (.Call (.Attribute ob (Str.ofString "append") ap) [e] [] pos) none pos'.line env)
    (hq : let n9 := gf (listOf (xs ++ [x]).toArray (n + 1)); ∀ h', Fr h₀ L h' m → News h₀ L h' n9 → wpAny (model prog w) A (execs rest env) Q E ⟨h', g, d, tkp tk k2, o⟩) :
    wpAny (model prog w) A (execs (.Expr (.Call (.Attribute ob (Str.ofString "append") ap) [e] [] pos) pos' :: rest) env) Q E ⟨h, g, d, tk, o⟩ := by
  have hm : (D, listOf xs.toArray n) ∈ news := by
    obtain ⟨pre, post, rfl, -, -, -⟩ := U.split
    exact List.mem_append.mpr (.inr (.head _))
  refine wpAny_execs_cons (wpAny_Expr_any (methodCall_KW (e1.go _ _ (listMethod_K (s := adv ⟨h, g, d, tk, o⟩ k1) N hm PySem.F.slot_list_append PySem.F.type_list_append ?_)) he) hi.symm hs.symm)
  refine callWith_K X hk (e2.go _ _ ⟨X.keeps F.keep, ap_own F N U hz hq⟩) ?_ rfl
  cases e <;> first | rfl | cases hp
end
theorem updF_upd {D : Addr} {o o' : Obj} {news : Ledger} {gf : Obj → Ledger} (U : UpdF D o news gf) : Upd D o o' news (gf o') := by
  induction U with
  | head h => exact .head h
  | tail h _ ih => exact .tail h ih
section
variable {prog : Program} {w : World} {A : Around} {h : Heap} {g : Array GenState} {d : Drawn} {tk : Nat} {o : OsState} {E : Value → Shared → Prop} {h₀ : Heap} {L l : Addr} {m : Str → Option Value} {news : Ledger} {xs : List Value} {n : Nat} {v : Value} {Qv : Value → Shared → Prop}
theorem Ev.last {s : Shared} {k : Nat} {u : Tok} {value slice : PySem.Expr} (N : News h₀ L s.heap news) (hm : (l, listOf (xs ++ [v]).toArray n) ∈ news)
    (hs : ∀ l j u, subscripted slice false (.ref l) (.int j u) = operate [.ref l, .int j u] (getItem (.ref l) (.int j u))) :
    Ev prog w A s k (subscriptTail value slice (.ref l) (.int (-1) u)) v k := .mk fun Q E h => by
  have hl : (adv s k).heap.IsList l (xs ++ [v]).toArray := ⟨_, (N _ hm).1, rfl, n, rfl⟩
  refine kde_neg (j := xs.length) hl (by decide) (by decide) ?_ (by simp) h (hs _ _ _)
  unfold seqIndex?
  rw [List.length_append, List.length_singleton]
  simp only [show ((-1 : Int) < 0) = True by simp, if_true]
  have e1 : (-1 + ((xs.length + 1 : Nat) : Int)) = (xs.length : Int) := by omega
  rw [e1, if_pos (by simp; omega)]
  simp
theorem pop_own {gf : Obj → Ledger} (F : Fr h₀ L h m) (N : News h₀ L h news) (U : UpdF l (listOf (xs ++ [v]).toArray n) news gf) (hz : xs.length ≤ 1000)
    (hq : let n9 := gf (listOf xs.toArray (n + 1)); ∀ h', Fr h₀ L h' m → News h₀ L h' n9 → Qv v ⟨h', g, d, tk, o⟩) : wpAny (model prog w) A (call (.builtin "list.pop") [.ref l]) Qv E ⟨h, g, d, tk, o⟩ :=
  kl_pop (s := ⟨h, g, d, tk, o⟩) F N (by simpa using kpa_last v xs) (updF_upd U) (by simp only [List.length_append, List.length_singleton, sizeLine_eq]; omega) hq
end

local macro_rules | `(tactic| walk_at "unpackItems ref") => `(tactic| (k_here; k_dflt (refine up_own (by k_asm) (by k_asm) (by lge_bears) rfl rfl ?_); intro h' F' N'; (try k_sweep)))
local macro_rules | `(tactic| walk_at "pe") => `(tactic| ((with_reducible apply Ev.last); k_asm; (focus lge_bears); exact fun _ _ _ => rfl))
local macro_rules | `(tactic| walk_at "assign Tuple") => `(tactic| (k_here; (with_reducible show wpAny _ _ (assign (PySem.Expr.Tuple [PySem.Expr.Name _ _, PySem.Expr.Name _ _] _ _) _ (Value.ref _)) _ _ _); k_dflt (refine as_two (by k_asm) (by k_asm) (by lge_bears) rfl rfl rfl rfl ?_); intro m9 h' tk' F' N'; (try k_sweep)))
local macro_rules | `(tactic| walk_at "execs cons Expr") => `(tactic| (k_here; k_dflt ((with_reducible refine' ex_app ?F ?N ?X ?k ?e ?U ?f ?z ?p ?c ?w ?i ?_); (case F => k_asm); (case N => k_asm); (case X => k_asm); (case k => k_is); (case e => walk_at "pe"); (case U => k_updF); (case f => walk_at "pe"); (case z => (first | assumption | omega)); (case p => exact rfl); (case c => exact rfl); (case w => exact rfl); (case i => exact rfl)); k_whole; intro n9 h' F' N'; (try k_sweep)))
local macro_rules | `(tactic| walk_at "call builtin:list.append") => `(tactic| (k_here; k_dflt (refine ap_own (by k_asm) (by k_asm) (by k_updF) (by first | assumption | omega) ?_); intro n9 h' F' N'; (try k_sweep)))
local macro_rules | `(tactic| walk_at "call builtin:list.pop") => `(tactic| (k_here; k_dflt (refine pop_own (by k_asm) (by k_asm) (by k_updF) (by first | assumption | omega) ?_); intro n9 h' F' N'; (try k_sweep)))
theorem fresh_Draw : True := by
  w_top off
  exact trivial
/-- the spool: two ints, none below nought -/
noncomputable def Spool (o : Obj) : Prop := ∃ x y t1 t2 e, (0 : Int) ≤ x ∧ (0 : Int) ≤ y ∧ y < 2147483647 ∧ o = listOf #[.int x t1, .int y t2] e
set_option maxRecDepth 100000 in
set_option maxHeartbeats 4000000 in
theorem drawn0 (w : World) (sp : Addr) (x y n : Int) (t1 t2 t3 : Tok) (e : Nat) (rest : Ledger) (hx : 0 ≤ x) (hy : 0 ≤ y) (hy2 : y < 2147483647) (hn : 1 ≤ n) (hn2 : n ≤ 15) (hr : ∀ p ∈ rest, p.1 ≠ sp) :
    Con w 129 2 20 [.ref sp, .int n t3] ((sp, listOf #[.int x t1, .int y t2] e) :: rest)
      (fun K => ∀ k t o', 0 ≤ k → k < n → Spool o' → K (.int k t) ((sp, o') :: rest)) := by
  have hn0 : n ≠ 0 := by omega
  refine' con_enter ?ho ?hcd ?hb ?hl ?hf ?_
  case ho => k_is
  case hcd => k_is
  case hb => exact fun _ => BindsTo.of_eq rfl
  case hl => exact rfl
  case hf => exact rfl
  intro p loose mean mg mb dp u gd outer A base g L h g9 d9 tk o9 K Q B X T hd hu hR hq e9 a9 m9 F N
  k_steps
  · refine hq _ _ _ _ _ (by assumption) (by assumption) (hR _ _ _ (Int.fmod_nonneg_of_pos _ (by omega)) (Int.fmod_lt_of_pos _ (by omega)) ⟨_, y, _, t2, e, ?_, hy, hy2, rfl⟩)
    rw [Int.fdiv_eq_ediv_of_nonneg _ (by omega)]
    exact Int.ediv_nonneg hx (by omega)
  · exact hq _ _ _ _ _ (by assumption) (by assumption) (hR _ _ _ (Int.fmod_nonneg_of_pos _ (by omega)) (Int.fmod_lt_of_pos _ (by omega)) ⟨x, _, t1, _, e, hx, Int.fmod_nonneg_of_pos _ (by decide), Int.fmod_lt_of_pos _ (by decide), rfl⟩)
theorem drawn {w : World} {sp : Addr} {o : Obj} {n : Int} {t : Tok} {news : Ledger} {gf : Obj → Ledger} (hS : Spool o) (hn : 1 ≤ n) (hn2 : n ≤ 15) (U : UpdF sp o news gf) :
    Con w 129 2 20 [.ref sp, .int n t] news (fun K => ∀ k t o', 0 ≤ k → k < n → Spool o' → K (.int k t) (gf o')) := by
  obtain ⟨x, y, t1, t2, e, hx, hy, hy2, rfl⟩ := hS
  exact Con.at (P := fun K => ∀ k t o', 0 ≤ k → k < n → Spool o' → K (.int k t) o') (fun _ _ h k a b c d e f => h _ _ (k a b c d e f)) U fun rest hr _ => drawn0 w sp x y n t1 t2 t e rest hx hy hy2 hn hn2 hr

local macro_rules | `(tactic| walk_at "call ref") => `(tactic| (k_here; (with_reducible show wpAny _ _ (call (Value.ref 129) _ _) _ _ _); k_dflt (refine Con.use (by k_asm) (by k_asm) (by k_asm) rfl (by lgec_go) (by lgec_go) (by k_asm) (by k_asm) (drawn (by k_asm) (by omega) (by omega) (by k_updF)) ?_); intro k' t' o' hk1' hk2' hS' n9 h' tk' F' N'))
theorem fresh_Use : True := by
  w_top off
  exact trivial
section
variable {prog : Program} {w : World} {A : Around} {E : Value → Shared → Prop} {s : Shared} {value slice : PySem.Expr} {h₀ : Heap} {L l : Addr} {news : Ledger} {vs : List Value} {n : Nat} {k : Int} {u : Tok} {Q : Value → Shared → Prop}
theorem len_L (N : News h₀ L s.heap news) (hm : (l, listOf vs.toArray n) ∈ news) (hz : vs.length ≤ 16384) (h : Q (.int vs.length (s.toks + 1)) { s with toks := s.toks + 1 + 1 }) : wpAny (model prog w) A (call (.builtin "len") [.ref l]) Q E s := by
  have hl : s.heap.IsList l vs.toArray := ⟨_, (N _ hm).1, rfl, n, rfl⟩
  refine len_list hl (by rw [List.size_toArray]; omega) ?_
  rw [List.size_toArray]
  exact h
theorem item_any (N : News h₀ L s.heap news) (hm : (l, listOf vs.toArray n) ∈ news) (h0 : 0 ≤ k) (h1 : k < vs.length) (hz : vs.length ≤ 16384) (h : ∀ v ∈ vs, Q v s)
    (hs : subscripted slice false (.ref l) (.int k u) = operate [.ref l, .int k u] (getItem (.ref l) (.int k u))) :
    wpAny (model prog w) A (subscriptTail value slice (.ref l) (.int k u)) Q E s := by
  have hlt : k.toNat < vs.length := by omega
  exact item_L N hm h0 (by omega) (List.getElem?_eq_getElem hlt) (h _ (List.getElem_mem hlt)) hs
end
/-- a ledger and the same with more laid behind its written part -/
inductive GrowF : Ledger → (Ledger → Ledger) → Prop
  | here {R : Ledger} : GrowF R (fun tl => tl ++ R)
  | cons {p : Addr × Obj} {r : Ledger} {g : Ledger → Ledger} : GrowF r g → GrowF (p :: r) (fun tl => p :: g tl)
theorem GrowF.mem {news : Ledger} {g : Ledger → Ledger} (G : GrowF news g) {tl : Ledger} {q : Addr × Obj} : q ∈ g tl ↔ q ∈ tl ++ news := by
  induction G with
  | here => exact Iff.rfl
  | cons _ ih =>
    simp only [List.mem_cons, List.mem_append] at ih ⊢
    rw [ih]
    grind
theorem Con.grow {w : World} {f : Addr} {dn un : Nat} {vs : List Value} {news : Ledger} {gf : Ledger → Ledger} {P : (Value → Ledger → Prop) → Prop} (mono : ∀ K₁ K₂ : Value → Ledger → Prop, (∀ r tl, K₁ r tl → K₂ r tl) → P K₁ → P K₂) (G : GrowF news gf)
    (C : Con w f dn un vs news (fun K => P fun r tl => K r (tl ++ news))) : Con w f dn un vs news (fun K => P fun r tl => K r (gf tl)) := by
  intro p loose mean mg mb dp u gd cn cs a ccd cl outer A₀ base h₀ L m h g d tk o9 Q B X T hk hd hu F N ret
  exact C p loose mean mg mb dp u gd cn cs a ccd cl outer A₀ base h₀ L m h g d tk o9 Q B X T hk hd hu F N (mono _ _ (fun r tl k h' tk' F' N' => k h' tk' F' (N'.perm fun q hq => G.mem.mp hq)) ret)
theorem fresh_ne {tl news : Ledger} {c : Addr} {o : Obj} (h : ∀ q ∈ tl, ∀ p ∈ news, p.1 < q.1) (hm : (c, o) ∈ news) : ∀ q ∈ tl, q.1 ≠ c := fun q hq => Nat.ne_of_gt (h q hq _ hm)
theorem sub_cons {A B : Ledger} {x : Addr × Obj} (h : ∀ p ∈ A, p ∈ B) : ∀ p ∈ A, p ∈ x :: B := fun p hp => List.mem_cons_of_mem _ (h p hp)
theorem all_app {A B : Ledger} {c : Addr} (h : ∀ p ∈ A, p.1 ≠ c) (h' : ∀ p ∈ B, p.1 ≠ c) : ∀ p ∈ A ++ B, p.1 ≠ c := fun p hp => (List.mem_append.mp hp).elim (h p) (h' p)

theorem fresh_One : True := by
  w_top off
  exact trivial
section
local macro_rules | `(tactic| walk_at "call builtin:len") => `(tactic| (k_here; (with_reducible show wpAny _ _ (call (Value.builtin "len") [Value.ref _]) _ _ _); k_dflt (refine' len_L ?k1 ?k2 ?k3 ?_; (case k1 => k_asm); (case k2 => k_mem); (case k3 => omega); k_whole)))
local macro_rules | `(tactic| walk_at "subscriptTail Name Call ref int") => `(tactic| (k_here; (with_reducible show wpAny _ _ (subscriptTail _ _ (Value.ref _) (Value.int _ _)) _ _ _); (with_unfolding_all refine' item_any ?k0 ?k1 ?k2 ?k3 ?k4 ?_ ?k6; (case k0 => k_asm); (case k1 => k_mem); (case k2 => assumption); (case k3 => assumption); (case k4 => omega); (case k6 => with_unfolding_all rfl); k_whole); intro v' hv'))
set_option maxRecDepth 100000 in
set_option maxHeartbeats 0 in
theorem one0 (w : World) (sp l : Addr) (o : Obj) (hS : Spool o) (vs : List Value) (n : Nat) (rest : Ledger) (hl : (l, listOf vs.toArray n) ∈ rest) (h1 : 1 ≤ vs.length) (h2 : vs.length ≤ 15) (hr : ∀ p ∈ rest, p.1 ≠ sp) :
    Con w 136 3 30 [.ref sp, .ref l] ((sp, o) :: rest) (fun K => ∀ r o', r ∈ vs → Spool o' → K r ((sp, o') :: rest)) := by
  refine' con_enter ?ho ?hcd ?hb ?hl ?hf ?_
  case ho => k_is
  case hcd => k_is
  case hb => exact fun _ => BindsTo.of_eq rfl
  case hl => exact rfl
  case hf => exact rfl
  intro p loose mean mg mb dp u gd outer A base g L h g9 d9 tk o9 K Q B X T hd hu hR hq e9 a9 m9 F N
  k_steps
  exact hq _ _ _ _ _ (by assumption) (by assumption) (hR _ _ (by assumption) (by assumption))
theorem one {w : World} {sp l : Addr} {o : Obj} {vs : List Value} {n : Nat} {news : Ledger} {gf : Obj → Ledger} (hl : (l, listOf vs.toArray n) ∈ news) (hS : Spool o) (hz : (Nat.ble 1 vs.length && Nat.ble vs.length 15) = true) (hne : sp ≠ l) (U : UpdF sp o news gf) :
    Con w 136 3 30 [.ref sp, .ref l] news (fun K => ∀ r o', r ∈ vs → Spool o' → K r (gf o')) := by
  obtain ⟨h1, h2⟩ := Bool.and_eq_true_iff.mp hz
  exact Con.at (P := fun K => ∀ r o', r ∈ vs → Spool o' → K r o') (fun _ _ h k a b c d => h _ _ (k a b c d)) U fun rest hr hs => one0 w sp l o hS vs n rest (hs _ hl fun e => hne e.symm) (Nat.le_of_ble_eq_true h1) (Nat.le_of_ble_eq_true h2) hr
noncomputable def isStrV : Value → Bool
  | .str _ _ => true
  | _ => false
noncomputable def isRefV : Value → Bool
  | .ref _ => true
  | _ => false
theorem one_str {w : World} {sp l : Addr} {o : Obj} {vs : List Value} {n : Nat} {news : Ledger} {gf : Obj → Ledger} (hl : (l, listOf vs.toArray n) ∈ news) (hS : Spool o) (hz : (Nat.ble 1 vs.length && Nat.ble vs.length 15) = true) (hne : sp ≠ l) (U : UpdF sp o news gf) (ha : vs.all isStrV = true) :
    Con w 136 3 30 [.ref sp, .ref l] news (fun K => ∀ x t o', .str x t ∈ vs → Spool o' → K (.str x t) (gf o')) := (one hl hS hz hne U).mono fun _ h r o' hm hs => by
  have := List.all_eq_true.mp ha r hm
  cases r <;> first | exact h _ _ _ hm hs | cases this
theorem one_ref {w : World} {sp l : Addr} {o : Obj} {vs : List Value} {n : Nat} {news : Ledger} {gf : Obj → Ledger} (hl : (l, listOf vs.toArray n) ∈ news) (hS : Spool o) (hz : (Nat.ble 1 vs.length && Nat.ble vs.length 15) = true) (hne : sp ≠ l) (U : UpdF sp o news gf) (ha : vs.all isRefV = true) :
    Con w 136 3 30 [.ref sp, .ref l] news (fun K => ∀ x o', .ref x ∈ vs → Spool o' → K (.ref x) (gf o')) := (one hl hS hz hne U).mono fun _ h r o' hm hs => by
  have := List.all_eq_true.mp ha r hm
  cases r <;> first | exact h _ _ hm hs | cases this

end
local macro_rules | `(tactic| walk_at "call ref") => `(tactic| (k_here; (with_reducible show wpAny _ _ (call (Value.ref 136) _ _) _ _ _); k_dflt (first
  | (refine Con.use (by k_asm) (by k_asm) (by k_asm) rfl (by lgec_go) (by lgec_go) (by k_asm) (by k_asm) (one_str (by lge_bears) (by k_asm) rfl (by k_ne) (by k_updF) rfl) ?_; intro w' t' o' hm' hS' n9 h' tk' F' N')
  | (refine Con.use (by k_asm) (by k_asm) (by k_asm) rfl (by lgec_go) (by lgec_go) (by k_asm) (by k_asm) (one_ref (by lge_bears) (by k_asm) rfl (by k_ne) (by k_updF) rfl) ?_; intro r' o' hm' hS' n9 h' tk' F' N')
  | (refine Con.use (by k_asm) (by k_asm) (by k_asm) rfl (by lgec_go) (by lgec_go) (by k_asm) (by k_asm) (one (by lge_bears) (by k_asm) rfl (by k_ne) (by k_updF)) ?_; intro r' o' hm' hS' n9 h' tk' F' N'))))
theorem fresh_Loop : True := by
  w_top off
  exact trivial
/-- how a loop's turn ends: it hands back, it leaves, or it goes on over a ledger that the word `Jn` tells -/
noncomputable def TurnEnd (h₀ : Heap) (L I : Addr) (oI : Obj) (Jn : (Str → Option Value) → Ledger → Prop) (s : Shared) (Q : Flow → Shared → Prop) (f : Flow) (s' : Shared) : Prop :=
  match f with
  | .ret v => Q (.ret v) s'
  | .brk => Q .next s'
  | _ => ∃ h' tk m nw all, s' = { s with heap := h', toks := tk } ∧ Fr h₀ L h' m ∧ News h₀ L h' all ∧ (∀ p ∈ (I, oI) :: nw, p ∈ all) ∧ (∀ p ∈ nw, p.1 ≠ I) ∧ Jn m nw

theorem TurnEnd.of {h₀ h' : Heap} {L I : Addr} {oI : Obj} {Jn : (Str → Option Value) → Ledger → Prop} {s : Shared} {Q : Flow → Shared → Prop} {m : Str → Option Value} {nw all : Ledger} {tk : Nat}
    (F : Fr h₀ L h' m) (N : News h₀ L h' all) (sub : ∀ p ∈ (I, oI) :: nw, p ∈ all) (ne : ∀ p ∈ nw, p.1 ≠ I) (j : Jn m nw) : TurnEnd h₀ L I oI Jn s Q .next { s with heap := h', toks := tk } := ⟨h', tk, m, nw, all, rfl, F, N, sub, ne, j⟩

section
variable {prog : Program} {w : World} {A : Around} {s : Shared} {env : Env} {h₀ : Heap} {E : Value → Shared → Prop} {Q : Flow → Shared → Prop} {x : Str} {body : List Stmt}

theorem loopAt {hs : Heap} {g9 : Array GenState} {d9 : Drawn} {t9 : Nat} {o9 : OsState} {I : Addr} {stat : List Addr} {n : Nat} {P : Nat → Value → Prop} {St : Nat → Heap → Prop} {m : Str → Option Value} {nw₀ : Ledger} (J : Nat → (Str → Option Value) → Ledger → Prop)
    (W : Walks prog w A I (I :: stat) [I] n P St) (halive : ∀ i h, St i h → ∃ o, h.get? I = some o) (hst : St 0 hs) (hLI : env.locals ≠ I) (hLs : env.locals ∉ stat) (hI : h₀.get? I = none)
    (F : Fr h₀ env.locals hs m) (N : News h₀ env.locals hs nw₀) (hn0 : ∀ p ∈ nw₀, p.1 ≠ I) (hj : J 0 m nw₀) (hstat : ∀ b ∈ stat, ∃ o, ∀ i m nw, J i m nw → (b, o) ∈ nw)
    (turn : ∀ i v m₁ nw h tk oI, i < n → P i v → J i m₁ nw → (∀ p ∈ nw, p.1 ≠ I) → Fr h₀ env.locals h (setm x v m₁) → News h₀ env.locals h ((I, oI) :: nw) →
      wpAny (model prog w) A (execs body env) (TurnEnd h₀ env.locals I oI (J (i + 1)) ⟨hs, g9, d9, t9, o9⟩ Q) E ⟨h, g9, d9, tk, o9⟩)
    (done : ∀ m₁ nw h tk, J n m₁ nw → Fr h₀ env.locals h m₁ → News h₀ env.locals h nw → Q .next ⟨h, g9, d9, tk, o9⟩) :
    LoopAtV prog w A h₀ env x body Q E (.ref I) ⟨hs, g9, d9, t9, o9⟩ := by
  refine ⟨I, _, _, n, P, St, m, nw₀, J, rfl, W, ?_, ?_, ?_, hst, F, N, hj, ?_, ?_⟩
  · intro hm
    rcases List.mem_cons.mp hm with e | hm
    · exact hLI e
    · exact hLs hm
  · intro b hb
    rw [List.mem_singleton.mp hb]; exact hI
  · intro p hp hm
    exact hn0 p hp (List.mem_singleton.mp hm)
  · rintro i v m₁ nw s₁ own ⟨h, tk, rfl⟩ hi hP hJ hoff hown hget hfp hst₁ F₁ N₁
    obtain ⟨oI, hoI⟩ := halive _ _ hst₁
    have hoff' : ∀ p ∈ nw, p.1 ≠ I := fun p hp e => hoff p hp (List.mem_singleton.mpr e)
    have hIown : (I, oI) ∈ own := hfp I List.mem_cons_self hI oI hoI
    have N₂ : News h₀ env.locals h ((I, oI) :: nw) := fun p hp => by
      rcases List.mem_cons.mp hp with rfl | hp
      · exact N₁ _ (List.mem_append_left _ hIown)
      · exact N₁ _ (List.mem_append_right _ hp)
    have fin : ∀ s₂, (∃ h' tk' m nw all, s₂ = ⟨h', g9, d9, tk', o9⟩ ∧ Fr h₀ env.locals h' m ∧ News h₀ env.locals h' all ∧ (∀ p ∈ (I, oI) :: nw, p ∈ all) ∧ (∀ p ∈ nw, p.1 ≠ I) ∧ J (i + 1) m nw) →
        LoopStepU h₀ env.locals [I] own (J (i + 1)) ⟨h, g9, d9, tk, o9⟩ .next s₂ := by
      rintro s₂ ⟨h', tk', m', nw', all, rfl, F', N', hsub, hne, hJ'⟩
      refine ⟨rfl, h', tk', m', nw', rfl, F', fun p hp => ?_, fun p hp hm => hne p hp (List.mem_singleton.mp hm), hJ'⟩
      rcases List.mem_append.mp hp with hp | hp
      · have hg := hget p hp
        rcases List.mem_cons.mp (hown p hp) with e | hb
        · have : p = (I, oI) := Prod.ext e (Option.some.inj (hg.symm.trans (by rw [e]; exact hoI)))
          rw [this]
          exact N' _ (hsub _ List.mem_cons_self)
        · obtain ⟨o, ho⟩ := hstat _ hb
          have h1 := (N₁ _ (List.mem_append_right _ (ho _ _ _ hJ))).1
          have : p = (p.1, o) := Prod.ext rfl (Option.some.inj (hg.symm.trans h1))
          rw [this]
          exact N' _ (hsub _ (List.mem_cons_of_mem _ (ho _ _ _ hJ')))
      · exact N' _ (hsub _ (List.mem_cons_of_mem _ hp))
    refine wpAny_mono (turn i v m₁ nw h tk oI hi hP hJ hoff' F₁ N₂) (fun f s₂ p => ?_) fun _ _ e => e
    cases f with
    | ret v => exact p
    | brk => exact p
    | next => exact .next (fin _ p)
    | cont => exact .cont (fin _ p)
  · rintro h' tk m' nw' F' N' _ hJ
    exact done m' nw' h' tk hJ F' N'

/-- a list of the ledger, gone through item by item -/
theorem iter_list {hs : Heap} {g9 : Array GenState} {d9 : Drawn} {t9 : Nat} {o9 : OsState} {l : Addr} {vs : List Value} {n : Nat} {m : Str → Option Value} {nw₀ : Ledger} (J : Nat → (Str → Option Value) → Ledger → Prop)
    (hh : A.handled = none) (F : Fr h₀ env.locals hs m) (N : News h₀ env.locals hs nw₀) (hj : J 0 m nw₀) (hl : ∀ i m nw, J i m nw → (l, listOf vs.toArray n) ∈ nw)
    (turn : ∀ I i v m₁ nw h tk oI, (∀ p ∈ nw₀, p.1 < I) → vs[i]? = some v → J i m₁ nw → (∀ p ∈ nw, p.1 ≠ I) → Fr h₀ env.locals h (setm x v m₁) → News h₀ env.locals h ((I, oI) :: nw) →
      wpAny (model prog w) A (execs body env) (TurnEnd h₀ env.locals I oI (J (i + 1)) ⟨hs, g9, d9, t9, o9⟩ Q) E ⟨h, g9, d9, tk, o9⟩)
    (done : ∀ m₁ nw h tk, J vs.length m₁ nw → Fr h₀ env.locals h m₁ → News h₀ env.locals h nw → Q .next ⟨h, g9, d9, tk, o9⟩) :
    wpAny (model prog w) A (pyIter (.ref l)) (fun it s₂ => LoopAtV prog w A h₀ env x body Q E it s₂) E ⟨hs, g9, d9, t9, o9⟩ := by
  have hm := hl _ _ _ hj
  have hol := (N _ hm).1
  have hls : hs.IsList l vs.toArray := ⟨_, hol, rfl, n, rfl⟩
  have hne : l ≠ hs.objs.size := Nat.ne_of_lt (Heap.lt_size hol)
  refine wpAny_pyIter_list hls ?_
  have W := Walks.list (prog := prog) (w := w) hh hs.objs.size l hne vs.toArray
  have hlen : vs.toArray.size = vs.length := by simp
  rw [hlen] at W
  have lt : ∀ p ∈ nw₀, p.1 < hs.objs.size := fun p hp => Heap.lt_size (N p hp).1
  refine loopAt J W (fun i h st => ?_) ⟨⟨_, Heap.get?_push_size _ rfl, rfl, rfl⟩, hls.at fun o e => Heap.get?_push_of_some _ e⟩ ?_ ?_ ?_ (F.push _)
    (fun p hp => ⟨Heap.get?_push_of_some _ (N p hp).1, (N p hp).2⟩) (fun p hp => Nat.ne_of_lt (lt p hp)) hj ?_ (fun i v m₁ nw h tk oI _ hP hJ hne => turn _ i v m₁ nw h tk oI lt (by simpa using hP) hJ hne) done
  · obtain ⟨⟨o, ho, _⟩, _⟩ := st
    exact ⟨o, ho⟩
  · exact fun e => absurd F.ns.lt (e ▸ Nat.lt_irrefl _)
  · exact fun hm' => (N _ hm).2.1 (List.mem_singleton.mp hm').symm
  · exact next_is_new F
  · intro b hb
    rw [List.mem_singleton.mp hb]
    exact ⟨_, hl⟩

/-- a tuple of the ledger, gone through item by item -/
theorem iter_tup {hs : Heap} {g9 : Array GenState} {d9 : Drawn} {t9 : Nat} {o9 : OsState} {l : Addr} {vs : List Value} {n : Nat} {m : Str → Option Value} {nw₀ : Ledger} (J : Nat → (Str → Option Value) → Ledger → Prop)
    (hh : A.handled = none) (F : Fr h₀ env.locals hs m) (N : News h₀ env.locals hs nw₀) (hj : J 0 m nw₀) (hl : ∀ i m nw, J i m nw → (l, tupOf vs.toArray n) ∈ nw)
    (turn : ∀ I i v m₁ nw h tk oI, (∀ p ∈ nw₀, p.1 < I) → vs[i]? = some v → J i m₁ nw → (∀ p ∈ nw, p.1 ≠ I) → Fr h₀ env.locals h (setm x v m₁) → News h₀ env.locals h ((I, oI) :: nw) →
      wpAny (model prog w) A (execs body env) (TurnEnd h₀ env.locals I oI (J (i + 1)) ⟨hs, g9, d9, t9, o9⟩ Q) E ⟨h, g9, d9, tk, o9⟩)
    (done : ∀ m₁ nw h tk, J vs.length m₁ nw → Fr h₀ env.locals h m₁ → News h₀ env.locals h nw → Q .next ⟨h, g9, d9, tk, o9⟩) :
    wpAny (model prog w) A (pyIter (.ref l)) (fun it s₂ => LoopAtV prog w A h₀ env x body Q E it s₂) E ⟨hs, g9, d9, t9, o9⟩ := by
  have hm := hl _ _ _ hj
  have hol := (N _ hm).1
  have hls : hs.IsTuple l vs.toArray := ⟨_, hol, rfl, n, rfl⟩
  have hne : l ≠ hs.objs.size := Nat.ne_of_lt (Heap.lt_size hol)
  refine wpAny_pyIter_tuple hls ?_
  have W := Walks.tuple (prog := prog) (w := w) hh hs.objs.size l hne vs.toArray
  have hlen : vs.toArray.size = vs.length := by simp
  rw [hlen] at W
  have lt : ∀ p ∈ nw₀, p.1 < hs.objs.size := fun p hp => Heap.lt_size (N p hp).1
  refine loopAt J W (fun i h st => ?_) ⟨⟨_, Heap.get?_push_size _ rfl, rfl, rfl⟩, hls.at fun o e => Heap.get?_push_of_some _ e⟩ ?_ ?_ ?_ (F.push _)
    (fun p hp => ⟨Heap.get?_push_of_some _ (N p hp).1, (N p hp).2⟩) (fun p hp => Nat.ne_of_lt (lt p hp)) hj ?_ (fun i v m₁ nw h tk oI _ hP hJ hne => turn _ i v m₁ nw h tk oI lt (by simpa using hP) hJ hne) done
  · obtain ⟨⟨o, ho, _⟩, _⟩ := st
    exact ⟨o, ho⟩
  · exact fun e => absurd F.ns.lt (e ▸ Nat.lt_irrefl _)
  · exact fun hm' => (N _ hm).2.1 (List.mem_singleton.mp hm').symm
  · exact next_is_new F
  · intro b hb
    rw [List.mem_singleton.mp hb]
    exact ⟨_, hl⟩

/-- range(n) -/
theorem iter_range {hs : Heap} {g9 : Array GenState} {d9 : Drawn} {t9 : Nat} {o9 : OsState} {r : Addr} {b₀ : Int} {t₀ u₀ v₀ : Tok} {n : Nat} {m : Str → Option Value} {nw₀ : Ledger} (J : Nat → (Str → Option Value) → Ledger → Prop)
    (hh : A.handled = none) (hr : IsRange hs r 0 b₀ 1 t₀ u₀ v₀) (hsmall : Builtin.Range.small 0 b₀ 1 = true) (hn : Builtin.Range.rangeSize 0 b₀ 1 = (n : Int)) (F : Fr h₀ env.locals hs m) (N : News h₀ env.locals hs nw₀) (hj : J 0 m nw₀)
    (turn : ∀ I (i : Nat) t m₁ nw h tk oI, (∀ p ∈ nw₀, p.1 < I) → i < n → J i m₁ nw → (∀ p ∈ nw, p.1 ≠ I) → Fr h₀ env.locals h (setm x (.int i t) m₁) → News h₀ env.locals h ((I, oI) :: nw) →
      wpAny (model prog w) A (execs body env) (TurnEnd h₀ env.locals I oI (J (i + 1)) ⟨hs, g9, d9, t9, o9⟩ Q) E ⟨h, g9, d9, tk, o9⟩)
    (done : ∀ m₁ nw h tk, J n m₁ nw → Fr h₀ env.locals h m₁ → News h₀ env.locals h nw → Q .next ⟨h, g9, d9, tk, o9⟩) :
    wpAny (model prog w) A (pyIter (.ref r)) (fun it s₂ => LoopAtV prog w A h₀ env x body Q E it s₂) E ⟨hs, g9, d9, t9, o9⟩ := by
  refine wpAny_pyIter_range hr hsmall ?_
  have W : Walks prog w A hs.objs.size (hs.objs.size :: []) [hs.objs.size] n (fun i v => i < n ∧ ∃ t, v = .int (0 + i * 1) t)
      (fun i h => IsRangeIter h hs.objs.size (0 + (i : Nat) * 1) ((n : Int) - (i : Nat)) 1) := (Walks.range hh _ 0 1 n).bound
  have lt : ∀ p ∈ nw₀, p.1 < hs.objs.size := fun p hp => Heap.lt_size (N p hp).1
  refine loopAt J W (fun i h st => ⟨_, st⟩) (by show IsRangeIter _ _ _ _ _; rw [hn]; simpa using Heap.get?_push_size _ rfl) ?_ (fun h => nomatch h) ?_ (F.push _)
    (fun p hp => ⟨Heap.get?_push_of_some _ (N p hp).1, (N p hp).2⟩) (fun p hp => Nat.ne_of_lt (lt p hp)) hj (fun _ h => nomatch h) ?_ done
  · exact fun e => absurd F.ns.lt (e ▸ Nat.lt_irrefl _)
  · exact next_is_new F
  · rintro i v m₁ nw h tk oI hi ⟨_, t, rfl⟩ hJ hne
    have e1 : (0 : Int) + (i : Int) * 1 = (i : Int) := by omega
    rw [e1]
    exact turn _ i t m₁ nw h tk oI lt hi hJ hne

theorem frKnown {L : Addr} {h : Heap} {m : Str → Option Value} {y : Str} {v : Value} (F : Fr h₀ L h m) (e : m y = some v) : Fr h₀ L h (fun z => if z = y then some v else m z) := by
  have : (fun z => if z = y then some v else m z) = m := by
    funext z
    by_cases h : z = y
    · rw [if_pos h, h, e]
    · rw [if_neg h]
  rw [this]; exact F
theorem frMore {L : Addr} {h : Heap} {m m' : Str → Option Value} {y : Str} {v : Value} (F : Fr h₀ L h m' ∧ m' = m) (e : m y = some v) : Fr h₀ L h (fun z => if z = y then some v else m' z) ∧ (fun z => if z = y then some v else m' z) = m := by
  obtain ⟨F, rfl⟩ := F
  have : (fun z => if z = y then some v else m' z) = m' := by
    funext z
    by_cases h : z = y
    · rw [if_pos h, h, e]
    · rw [if_neg h]
  exact ⟨frKnown F e, this⟩
end
/-- how a while's turn ends -/
noncomputable def WhileEnd (h₀ : Heap) (L : Addr) (k : Nat) (J : Nat → (Str → Option Value) → Ledger → Prop) (s : Shared) (Q : Flow → Shared → Prop) (f : Flow) (s' : Shared) : Prop :=
  match f with
  | .ret v => Q (.ret v) s'
  | .brk => Q .next s'
  | _ => ∃ h' tk m nw all k', s' = { s with heap := h', toks := tk } ∧ k' < k ∧ Fr h₀ L h' m ∧ News h₀ L h' all ∧ (∀ p ∈ nw, p ∈ all) ∧ J k' m nw
theorem WhileEnd.of {h₀ h' : Heap} {L : Addr} {k k' : Nat} {J : Nat → (Str → Option Value) → Ledger → Prop} {s : Shared} {Q : Flow → Shared → Prop} {m : Str → Option Value} {nw all : Ledger} {tk : Nat}
    (hk : k' < k) (F : Fr h₀ L h' m) (N : News h₀ L h' all) (sub : ∀ p ∈ nw, p ∈ all) (j : J k' m nw) : WhileEnd h₀ L k J s Q .next { s with heap := h', toks := tk } := ⟨h', tk, m, nw, all, k', rfl, hk, F, N, sub, j⟩
/-- what stands behind a while's test -/
noncomputable def WhileTest (prog : Program) (w : World) (A : Around) (h₀ : Heap) (env : Env) (body : List Stmt) (k : Nat) (J : Nat → (Str → Option Value) → Ledger → Prop) (s : Shared) (Q : Flow → Shared → Prop) (E : Value → Shared → Prop) (b : Bool) (s' : Shared) : Prop :=
  if b = true then wpAny (model prog w) A (execs body env) (WhileEnd h₀ env.locals k J s Q) E s' else Q .next s'
theorem WhileTest.yes {prog : Program} {w : World} {A : Around} {h₀ : Heap} {env : Env} {body : List Stmt} {k : Nat} {J : Nat → (Str → Option Value) → Ledger → Prop} {s : Shared} {Q : Flow → Shared → Prop} {E : Value → Shared → Prop} {s' : Shared} (h : wpAny (model prog w) A (execs body env) (WhileEnd h₀ env.locals k J s Q) E s') : WhileTest prog w A h₀ env body k J s Q E true s' := h
theorem WhileTest.no {prog : Program} {w : World} {A : Around} {h₀ : Heap} {env : Env} {body : List Stmt} {k : Nat} {J : Nat → (Str → Option Value) → Ledger → Prop} {s : Shared} {Q : Flow → Shared → Prop} {E : Value → Shared → Prop} {s' : Shared} (h : Q .next s') : WhileTest prog w A h₀ env body k J s Q E false s' := h
noncomputable def WhileAt (prog : Program) (w : World) (A : Around) (s : Shared) (env : Env) (h₀ : Heap) (E : Value → Shared → Prop) (Q : Flow → Shared → Prop) (test : Expr) (body : List Stmt) (m : Str → Option Value) : Prop :=
  ∃ (J : Nat → (Str → Option Value) → Ledger → Prop) (k : Nat) (nw : Ledger), News h₀ env.locals s.heap nw ∧ J k m nw ∧
      ∀ k m nw h tk, J k m nw → Fr h₀ env.locals h m → News h₀ env.locals h nw → wpAny (model prog w) A (isTrue test env (eval test env)) (WhileTest prog w A h₀ env body k J s Q E) E { s with heap := h, toks := tk }
theorem WhileAt.of {prog : Program} {w : World} {A : Around} {hs : Heap} {g9 : Array GenState} {d9 : Drawn} {t9 : Nat} {o9 : OsState} {env : Env} {h₀ : Heap} {E : Value → Shared → Prop} {Q : Flow → Shared → Prop} {test : Expr} {body : List Stmt} {m : Str → Option Value} {nw : Ledger} (J : Nat → (Str → Option Value) → Ledger → Prop) (k : Nat) (N : News h₀ env.locals hs nw) (hj : J k m nw)
    (turn : ∀ k m nw h tk, J k m nw → Fr h₀ env.locals h m → News h₀ env.locals h nw → wpAny (model prog w) A (isTrue test env (eval test env)) (WhileTest prog w A h₀ env body k J ⟨hs, g9, d9, t9, o9⟩ Q E) E ⟨h, g9, d9, tk, o9⟩) : WhileAt prog w A ⟨hs, g9, d9, t9, o9⟩ env h₀ E Q test body m := ⟨J, k, nw, N, hj, turn⟩
theorem While_K {prog : Program} {w : World} {A : Around} {s : Shared} {env : Env} {h₀ : Heap} {E : Value → Shared → Prop} {Q : Flow → Shared → Prop} {test : Expr} {body : List Stmt} {pos : Pos}
    {m : Str → Option Value} (F : Fr h₀ env.locals s.heap m) (hE : PassesOwn (model prog w) A env E)
    (H : WhileAt prog w A s env h₀ E Q test body m) : wpAny (model prog w) A (exec (.While test body [] pos) env) Q E s := by
  obtain ⟨J, k, nw, N, hj, turn⟩ := H
  refine wpAny_While (codeAny_whileLoop (fun k s' => ∃ h tk m nw, s' = { s with heap := h, toks := tk } ∧ J k m nw ∧ Fr h₀ env.locals h m ∧ News h₀ env.locals h nw) ?_ k ⟨s.heap, s.toks, m, nw, rfl, hj, F, N⟩)
  rintro k s' ⟨h, tk, m, nw, rfl, hJ, F', N'⟩
  refine wpAny_mono (wpAny_passesOwn hE (turn k m nw h tk hJ F' N')) (fun b s₂ h₂ => ?_) fun _ _ q => q
  unfold WhileTest at h₂
  cases b with
  | false =>
    simp only [Bool.false_eq_true, if_false] at h₂ ⊢
    exact wpAny_execs_nil h₂
  | true =>
    simp only [if_true] at h₂ ⊢
    refine wpAny_mono (wpAny_passesOwn hE h₂) (fun f s₃ h₃ => ?_) fun _ _ q => q
    have go : (∃ h' tk m nw all k', s₃ = { s with heap := h', toks := tk } ∧ k' < k ∧ Fr h₀ env.locals h' m ∧ News h₀ env.locals h' all ∧ (∀ p ∈ nw, p ∈ all) ∧ J k' m nw) → ∃ m, m < k ∧ ∃ h tk m' nw, s₃ = { s with heap := h, toks := tk } ∧ J m m' nw ∧ Fr h₀ env.locals h m' ∧ News h₀ env.locals h nw := by
      rintro ⟨h', tk', m', nw', all, k', rfl, hk, F₃, N₃, hs, hJ₃⟩
      exact ⟨k', hk, h', tk', m', nw', rfl, hJ₃, F₃, fun p hp => N₃ p (hs p hp)⟩
    cases f with
    | next => exact go h₃
    | cont => exact go h₃
    | brk => exact h₃
    | ret v => exact h₃

section
variable {prog : Program} {w : World} {A : Around} {E : Value → Shared → Prop} {s : Shared} {h₀ : Heap} {L a b : Addr} {news : Ledger} {vs xs : List Value} {n k : Nat} {v : Value} {Q : Value → Shared → Prop}
theorem units_of {u b : Nat} (h : u + b < cLine) : u < cLine := Nat.lt_of_le_of_lt (Nat.le_add_right _ _) h
theorem isL (N : News h₀ L s.heap news) (ha : (a, listOf vs.toArray n) ∈ news) : s.heap.IsList a vs.toArray := ⟨_, (N _ ha).1, rfl, n, rfl⟩
theorem ne_nil0 (N : News h₀ L s.heap news) (ha : (a, listOf [].toArray n) ∈ news) (hb : (b, listOf #[] k) ∈ news) (hu : A.units < cLine) (h : Q (.bool false) s) : wpAny (model prog w) A (compareOp .NotEq (.ref a) (.ref b)) Q E s :=
  PySem.SeqAt.RcNeAt.lists (e := fun _ => true) (isL N ha) (isL (vs := []) N hb) rfl hu (fun j h1 => absurd h1 (by simp)) prog w E Q h
theorem ne_nil1 (N : News h₀ L s.heap news) (ha : (a, listOf (xs ++ [v]).toArray n) ∈ news) (hb : (b, listOf #[] k) ∈ news) (hu : A.units < cLine) (h : Q (.bool true) s) : wpAny (model prog w) A (compareOp .NotEq (.ref a) (.ref b)) Q E s :=
  PySem.SeqAt.RcNeAt.lists_lengths (isL N ha) (isL (vs := []) N hb) (by simp) hu prog w E Q h
theorem eq_nil {b9 : Bool} (N : News h₀ L s.heap news) (ha : (a, listOf vs.toArray n) ∈ news) (hb : (b, listOf #[] k) ∈ news) (hu : A.units < cLine) (hb9 : vs.isEmpty = b9) (h : Q (.bool b9) s) : wpAny (model prog w) A (compareOp .Eq (.ref a) (.ref b)) Q E s := by
  subst hb9
  cases vs with
  | nil => exact PySem.SeqAt.eq_listAt (e := fun _ => true) (isL N ha) (isL (vs := []) N hb) rfl hu (fun j h1 => absurd h1 (by simp)) h
  | cons x r => exact PySem.SeqAt.eq_list_lengthsAt (isL N ha) (isL (vs := []) N hb) (by simp) hu h
end
/-- the walk is to stop at the next loop -/
structure ParkHere : Prop where
noncomputable def Parked (P : Prop) : Prop := P
theorem unpark {P : Prop} (h : Parked P) : P := h

local macro_rules | `(tactic| walk_at "pyIter ref") => `(tactic| (k_here; (with_reducible rename ParkHere => pk9); k_dflt (refine unpark ?_)))
local macro_rules | `(tactic| walk_at "compareOp NotEq ref ref") => `(tactic| (k_here; k_dflt (first | refine ne_nil0 (by k_asm) (by lge_bears) (by lge_bears) (units_of (by assumption)) ?_ | refine ne_nil1 (by k_asm) (by lge_bears) (by lge_bears) (units_of (by assumption)) ?_); k_whole))
local macro_rules | `(tactic| walk_at "compareOp Eq ref ref") => `(tactic| (k_here; k_dflt (refine eq_nil (by k_asm) (by lge_bears) (by lge_bears) (units_of (by assumption)) (by first | assumption | exact rfl) ?_); k_whole))
local macro_rules | `(tactic| walk_at "exec While Compare cons nil") => `(tactic| (k_here; k_dflt (refine' While_K ?F ?hE ?_; (case F => k_asm); (case hE => with_unfolding_all passes_own))))
theorem fresh_Cut : True := by
  w_top off
  exact trivial
theorem execs_app {M : Model} {A : Around} {E : Value → Shared → Prop} {env : Env} {Q : Flow → Shared → Prop} {B : List Stmt} {Γ : PySem.Ctx} (hΓ : Γ.In A) : ∀ (l : List Stmt) (p : Pos) (s : Shared),
    Sem.wp M Γ (execs l env) (fun f _ s' => match f with | .next => wpAny M A (execs B env) Q E s' | f => Q f s') (fun e _ s' => E e s') p s → Sem.wp M Γ (execs (l ++ B) env) (fun f _ s' => Q f s') (fun e _ s' => E e s') p s
  | [], p, s, h => h Γ p hΓ
  | a :: l, p, s, h => by
    rw [List.cons_append, execs_cons, Sem.wp_bind'] 
    rw [execs_cons, Sem.wp_bind'] at h
    refine Sem.wp_mono M Γ _ (fun f p' s' h' => ?_) (fun _ _ _ h' => h') _ _ h
    cases f <;> first | exact execs_app hΓ l p' s' h' | exact h'
/-- what stands behind the first part of a run that is cut in two -/
noncomputable def CutPost (g : Heap) (L : Addr) (s : Shared) (P : (Str → Option Value) → Ledger → Prop) (fl : Flow) (s' : Shared) : Prop :=
  ∃ h' tk m nw, fl = .next ∧ s' = { s with heap := h', toks := tk } ∧ Fr g L h' m ∧ News g L h' nw ∧ P m nw
/-- a run of statements cut in two: what stands between is told by `P` -/
theorem split_cut {M : Model} {A : Around} {E : Value → Shared → Prop} {env : Env} {Q : Flow → Shared → Prop} {s : Shared} {g : Heap} {L : Addr} (l B : List Stmt) (P : (Str → Option Value) → Ledger → Prop)
    (h1 : wpAny M A (execs l env) (CutPost g L s P) E s)
    (h2 : ∀ h' tk m nw, P m nw → Fr g L h' m → News g L h' nw → wpAny M A (execs B env) Q E { s with heap := h', toks := tk }) : wpAny M A (execs (l ++ B) env) Q E s := fun Γ p hΓ => by
  refine execs_app (A := A) (E := E) hΓ l p s (Sem.wp_mono M Γ _ (fun f p' s' h' => ?_) (fun _ _ _ h' => h') _ _ (h1 Γ p hΓ))
  obtain ⟨h', tk, m, nw, rfl, rfl, F, N, hP⟩ := h'
  exact h2 h' tk m nw hP F N
theorem split_end {g h' : Heap} {L : Addr} {P : (Str → Option Value) → Ledger → Prop} {s : Shared} {m : Str → Option Value} {nw : Ledger} {tk : Nat} (F : Fr g L h' m) (N : News g L h' nw) (p : P m nw) :
    CutPost g L s P .next { s with heap := h', toks := tk } := ⟨h', tk, m, nw, rfl, rfl, F, N, p⟩
/-- as split_cut, for one step of a walk -/
theorem exec_cut {M : Model} {A : Around} {E : Value → Shared → Prop} {t : Sem Flow} {Q : Flow → Shared → Prop} {s : Shared} {g : Heap} {L : Addr} (P : (Str → Option Value) → Ledger → Prop) (h1 : wpAny M A t (CutPost g L s P) E s)
    (h2 : ∀ h' tk m nw, P m nw → Fr g L h' m → News g L h' nw → Q .next { s with heap := h', toks := tk }) : wpAny M A t Q E s := wpAny_mono h1 (fun fl s' h => by
  obtain ⟨h', tk, m, nw, rfl, rfl, F, N, hP⟩ := h
  exact h2 h' tk m nw hP F N) fun _ _ x => x

theorem fresh_Enum : True := by
  w_top off
  exact trivial
inductive Nxt2 (h₀ : Heap) (L : Addr) (its : Ledger) (Jn : (Str → Option Value) → Ledger → Prop) (s : Shared) : Shared → Prop
  | mk {h' : Heap} {tk : Nat} {m : Str → Option Value} {nw all : Ledger} (F : Fr h₀ L h' m) (N : News h₀ L h' all) (sub : ∀ p ∈ its ++ nw, p ∈ all) (ne : ∀ p ∈ nw, ∀ q ∈ its, p.1 ≠ q.1) (j : Jn m nw) : Nxt2 h₀ L its Jn s { s with heap := h', toks := tk }
/-- how a turn of a loop over enumerate ends -/
noncomputable def TurnEnd2 (h₀ : Heap) (L : Addr) (its : Ledger) (Jn : (Str → Option Value) → Ledger → Prop) (s : Shared) (Q : Flow → Shared → Prop) (f : Flow) (s' : Shared) : Prop :=
  match f with
  | .ret v => Q (.ret v) s'
  | .brk => Q .next s'
  | _ => Nxt2 h₀ L its Jn s s'

abbrev enumO (it : Addr) (i : Int) (old : Value) : Obj := { cls := .type "enumerate", dict := none, data := .fields #[.none, .bool false, .ref it, rawInt i, .none, old], slots := #[] }

section
variable {prog : Program} {w : World} {A : Around} {s : Shared} {env : Env} {h₀ : Heap} {E : Value → Shared → Prop} {Q : Flow → Shared → Prop}

/-- what stands behind «enumerate(a list of the ledger)» -/
inductive EnumAt (prog : Program) (w : World) (A : Around) (h₀ : Heap) (env : Env) (target : Expr) (body : List Stmt) (Q : Flow → Shared → Prop) (E : Value → Shared → Prop) : Value → Shared → Prop
  | of {hs : Heap} {g9 : Array GenState} {d9 : Drawn} {t9 : Nat} {o9 : OsState} {e it l : Addr} {vs : List Value} {n : Nat} {m : Str → Option Value} {nw₀ : Ledger} {J : Nat → (Str → Option Value) → Ledger → Prop}
    (he : IsEnum hs e it 0 .none) (hit : hs.IsListIter it l 0) (he0 : h₀.get? e = none) (hi0 : h₀.get? it = none) (hei : e ≠ it) (hLe : env.locals ≠ e) (hLi : env.locals ≠ it)
    (F : Fr h₀ env.locals hs m) (N : News h₀ env.locals hs nw₀) (hn : ∀ p ∈ nw₀, p.1 ≠ e ∧ p.1 ≠ it) (hj : J 0 m nw₀) (hl : ∀ i m nw, J i m nw → (l, listOf vs.toArray n) ∈ nw)
    (turn : ∀ i v m₁ nw h tk T ti oe oi, vs[i]? = some v → J i m₁ nw → (∀ p ∈ nw, p.1 ≠ e ∧ p.1 ≠ it ∧ p.1 < T) → e < T → it < T → Fr h₀ env.locals h m₁ → News h₀ env.locals h ((T, tupOf #[.int i ti, v] 0) :: (e, oe) :: (it, oi) :: nw) →
      wpAny (model prog w) A (assign target env (.ref T)) (fun _ s₂ => wpAny (model prog w) A (execs body env) (TurnEnd2 h₀ env.locals [(e, oe), (it, oi)] (J (i + 1)) ⟨hs, g9, d9, t9, o9⟩ Q) E s₂) E ⟨h, g9, d9, tk, o9⟩)
    (done : ∀ m₁ nw h tk, J vs.length m₁ nw → Fr h₀ env.locals h m₁ → News h₀ env.locals h nw → Q .next ⟨h, g9, d9, tk, o9⟩) : EnumAt prog w A h₀ env target body Q E (.ref e) ⟨hs, g9, d9, t9, o9⟩
inductive EnumJ (h₀ : Heap) (L e it l : Addr) (vs : List Value) (J : Nat → (Str → Option Value) → Ledger → Prop) (g9 : Array GenState) (d9 : Drawn) (o9 : OsState) (k : Nat) : Shared → Prop
  | mk {H : Heap} {tk i : Nat} {m' : Str → Option Value} {nw : Ledger} {old : Value} (he' : IsEnum H e it ((i : Nat) : Int) old) (hit' : H.IsListIter it l i) (F' : Fr h₀ L H m') (N' : News h₀ L H nw) (hne : ∀ p ∈ nw, p.1 ≠ e ∧ p.1 ≠ it) (hJ : J i m' nw) (hi : i ≤ vs.length) (hk : k = vs.length + 1 - i) : EnumJ h₀ L e it l vs J g9 d9 o9 k ⟨H, g9, d9, tk, o9⟩
theorem TurnEnd2.of {h₀ h' : Heap} {L : Addr} {its : Ledger} {Jn : (Str → Option Value) → Ledger → Prop} {s : Shared} {Q : Flow → Shared → Prop} {m : Str → Option Value} {nw all : Ledger} {tk : Nat}
    (F : Fr h₀ L h' m) (N : News h₀ L h' all) (sub : ∀ p ∈ its ++ nw, p ∈ all) (ne : ∀ p ∈ nw, ∀ q ∈ its, p.1 ≠ q.1) (j : Jn m nw) : TurnEnd2 h₀ L its Jn s Q .next { s with heap := h', toks := tk } := Nxt2.mk F N sub ne j
theorem For_enumK {elts : List Expr} {x1 : Nat} {pt pos : Pos} {iter : Expr} {body : List Stmt} {L' : Addr} {mL : Str → Option Value} (_F : Fr h₀ L' s.heap mL) (hh : A.handled = none)
    (h : wpAny (model prog w) A (eval iter env) (EnumAt prog w A h₀ env (.Tuple elts x1 pt) body Q E) E s)
    (hs : ∀ x, foldedSetIterable iter env x = pure x) (hE : PassesOwn (model prog w) A env E) :
    wpAny (model prog w) A (exec (.For (.Tuple elts x1 pt) iter body [] pos) env) Q E s := by
  refine wpAny_For (wpAny_mono h (fun xv s₁ h₁ => ?_) fun _ _ e => e) hs
  cases h₁ with
  | @of hs9 g9 d9 t9 o9 e it l vs n m nw₀ J he hit he0 hi0 hei hLe hLi F N hn0 hj hl turn done =>
  refine wpAny_pyIter_enum he ?_
  refine codeAny_forLoop_any (EnumJ h₀ env.locals e it l vs J g9 d9 o9) ?_ (vs.length + 1) (.mk he hit F N hn0 hj (Nat.zero_le _) rfl)
  intro k s' hJ9
  cases hJ9 with
  | @mk H tk i m' nw old he' hit' F' N' hne hJ hi hk =>
  subst hk
  have hol := (N' _ (hl _ _ _ hJ)).1
  have hl' : H.IsList l vs.toArray := ⟨_, hol, rfl, n, rfl⟩
  have old0 : ∀ b o, h₀.get? b = some o → b ≠ e ∧ b ≠ it := fun b o hb => ⟨fun q => (by rw [q, he0] at hb; cases hb), fun q => (by rw [q, hi0] at hb; cases hb)⟩
  cases hv : vs[i]? with
  | none =>
    have hsz : i = vs.length := Nat.le_antisymm hi (by simpa using hv)
    refine wpAny_pyNext_enum_end hh he' hit' hl' (by simpa using hv) fun h₁ hx => wpAny_execs_nil ?_
    have k1 : ∀ b o, b ≠ it → H.get? b = some o → h₁.get? b = some o := hx
    subst hsz
    refine done m' nw h₁ tk hJ ⟨F'.ns.at' fun o q => k1 _ o hLi q, fun b o q => k1 b o (old0 b o q).2 (F'.keep b o q), F'.above⟩ fun p hp => ⟨k1 _ _ (hne p hp).2 (N' p hp).1, (N' p hp).2⟩
  | some v =>
    have hlt : i < vs.length := (List.getElem?_eq_some_iff.mp hv).1
    have heH : e < H.objs.size := Heap.lt_size he'
    have hiH : it < H.objs.size := by obtain ⟨oi, hoi, _⟩ := id hit'; exact Heap.lt_size hoi
    refine wpAny_pyNext_enum_item he' hit' hl' (by simpa using hv) hei fun h₁ heo hit₁ ht₁ hz₁ hk₁ => ?_
    refine wpAny_letOwnedTupleGo_enum heo fun h₂ he₂ hs₂ => ?_
    have hs₂' : Heap.SameBut e h₁ h₂ := hs₂
    have ht₂ : h₂.get? H.objs.size = some (tupOf #[.int i tk, v] 0) := (hs₂'.2 _ (Nat.ne_of_gt heH)).trans ht₁
    have k2 : ∀ b o, b ≠ e → b ≠ it → H.get? b = some o → h₂.get? b = some o := fun b o h1 h2 q => (hs₂'.2 b h1).trans (hk₁ b o h1 h2 q)
    have F₂ : Fr h₀ env.locals h₂ m' := ⟨F'.ns.at' fun o q => k2 _ o hLe hLi q, fun b o q => k2 b o (old0 b o q).1 (old0 b o q).2 (F'.keep b o q), F'.above⟩
    have hLH : env.locals < H.objs.size := F'.ns.lt
    have he₂' : IsEnum h₂ e it (((i + 1 : Nat)) : Int) v := by
      have q : ((i + 1 : Nat) : Int) = (i : Int) + 1 := by push_cast; rfl
      rw [q]; exact he₂
    obtain ⟨oi, hoi, hoc, hod⟩ := hit₁
    have hoi₂ : h₂.get? it = some oi := (hs₂'.2 _ (Ne.symm hei)).trans hoi
    have N₂ : News h₀ env.locals h₂ ((H.objs.size, tupOf #[.int i tk, v] 0) :: (e, enumO it ((i + 1 : Nat) : Int) v) :: (it, oi) :: nw) := fun p hp => by
      rcases List.mem_cons.mp hp with rfl | hp
      · refine ⟨ht₂, Nat.ne_of_gt hLH, ?_⟩
        cases q : h₀.get? H.objs.size with
        | none => rfl
        | some o' => exact absurd (Heap.lt_size (F'.keep _ _ q)) (Nat.lt_irrefl _)
      · rcases List.mem_cons.mp hp with rfl | hp
        · exact ⟨he₂', Ne.symm hLe, he0⟩
        · rcases List.mem_cons.mp hp with rfl | hp
          · exact ⟨hoi₂, Ne.symm hLi, hi0⟩
          · exact ⟨k2 _ _ (hne p hp).1 (hne p hp).2 (N' p hp).1, (N' p hp).2⟩
    refine wpAny_mono (wpAny_passesOwn hE (turn i v m' nw h₂ (tk + 1) H.objs.size tk (enumO it ((i + 1 : Nat) : Int) v) oi hv hJ (fun p hp => ⟨(hne p hp).1, (hne p hp).2, Heap.lt_size (N' p hp).1⟩) heH hiH F₂ N₂)) (fun _ s₃ h₃ => ?_) fun _ _ q => q
    refine wpAny_mono (wpAny_passesOwn hE h₃) (fun f s₄ h₄ => ?_) fun _ _ q => q
    have go : ∀ s₄, Nxt2 h₀ env.locals [(e, enumO it ((i + 1 : Nat) : Int) v), (it, oi)] (J (i + 1)) ⟨hs9, g9, d9, t9, o9⟩ s₄ → ∃ k', k' < vs.length + 1 - i ∧ EnumJ h₀ env.locals e it l vs J g9 d9 o9 k' s₄ := by
      intro s₄ hX
      cases hX with
      | mk F₃ N₃ hsub hne₃ hJ₃ =>
      exact ⟨vs.length + 1 - (i + 1), by omega, .mk (N₃ _ (hsub _ (List.mem_append_left _ List.mem_cons_self))).1
        ⟨oi, (N₃ _ (hsub _ (List.mem_append_left _ (List.mem_cons_of_mem _ List.mem_cons_self)))).1, hoc, hod⟩ F₃ (fun p hp => N₃ _ (hsub _ (List.mem_append_right _ hp)))
        (fun p hp => ⟨hne₃ p hp _ List.mem_cons_self, hne₃ p hp _ (List.mem_cons_of_mem _ List.mem_cons_self)⟩) hJ₃ hlt rfl⟩
    cases f with
    | next => exact go _ h₄
    | cont => exact go _ h₄
    | brk => exact h₄
    | ret v => exact h₄

/-- enumerate(a list of the ledger): two objects more -/
theorem enum_call {hs : Heap} {g9 : Array GenState} {d9 : Drawn} {t9 : Nat} {o9 : OsState} {l : Addr} {vs : List Value} {n : Nat} {L : Addr} {m : Str → Option Value} {news : Ledger} {Q : Value → Shared → Prop} (F : Fr h₀ L hs m) (N : News h₀ L hs news) (hl : (l, listOf vs.toArray n) ∈ news)
    (h : ∀ e it h', IsEnum h' e it 0 .none → h'.IsListIter it l 0 → it < e → (∀ p ∈ news, p.1 < it) → L < it → h₀.get? e = none → h₀.get? it = none → Fr h₀ L h' m → News h₀ L h' news → Q (.ref e) ⟨h', g9, d9, t9, o9⟩) :
    wpAny (model prog w) A (call (.type "enumerate") [.ref l]) Q E ⟨hs, g9, d9, t9, o9⟩ := by
  refine call_enumerate_1 (N _ hl).1 fun h' he hit hz hk => ?_
  have none0 : ∀ b, hs.objs.size ≤ b → h₀.get? b = none := fun b hb => by
    cases q : h₀.get? b with
    | none => rfl
    | some o' => exact absurd (Heap.lt_size (F.keep _ _ q)) (Nat.not_lt.mpr hb)
  exact h _ _ h' he hit (Nat.lt_succ_self _) (fun p hp => Heap.lt_size (N p hp).1) F.ns.lt (none0 _ (Nat.le_succ _)) (none0 _ (Nat.le_refl _))
    ⟨F.ns.at' fun o q => hk _ o q, fun b o q => hk b o (F.keep b o q), F.above⟩ fun p hp => ⟨hk _ _ (N p hp).1, (N p hp).2⟩
end

local macro_rules | `(tactic| walk_at "exec For Tuple Call cons nil") => `(tactic| (k_here; k_dflt (refine' For_enumK ?F ?hh ?h ?hs ?hE; (case F => k_asm); (case hh => exact rfl); (case hs => (intro _; with_unfolding_all rfl)); (case hE => with_unfolding_all passes_own))))
local macro_rules | `(tactic| walk_at "call type:enumerate") => `(tactic| (k_here; k_dflt (refine' enum_call ?F ?N ?l ?_; (case F => k_asm); (case N => k_asm); (case l => lge_bears)); intro e' it' h' he' hit' l1' l2' l3' n1' n2' F' N'; (try k_sweep)))
theorem fresh_Comp : True := by
  w_top off
  exact trivial
/-- two rows, item by item -/
inductive All2 {α : Type} (R : Value → α → Prop) : List Value → List α → Prop
  | nil : All2 R [] []
  | cons {v : Value} {x : α} {vs : List Value} {xs : List α} : R v x → All2 R vs xs → All2 R (v :: vs) (x :: xs)
section
variable {α : Type} {R R' : Value → α → Prop} {vs vs' : List Value} {xs xs' : List α}
theorem All2.length (h : All2 R vs xs) : vs.length = xs.length := by
  induction h with
  | nil => rfl
  | cons _ _ ih => simp [ih]
theorem All2.get (h : All2 R vs xs) : ∀ {i : Nat} {v : Value}, vs[i]? = some v → ∃ x, xs[i]? = some x ∧ R v x := by
  induction h with
  | nil => intro i v e; simp at e
  | cons a _ ih =>
    intro i v e
    cases i with
    | zero => simp at e; subst e; exact ⟨_, by simp, a⟩
    | succ i => simp only [List.getElem?_cons_succ] at e ⊢; exact ih e
theorem All2.imp (f : ∀ v x, R v x → R' v x) (h : All2 R vs xs) : All2 R' vs xs := by
  induction h with
  | nil => exact .nil
  | cons a _ ih => exact .cons (f _ _ a) ih
theorem All2.append (h : All2 R vs xs) (h' : All2 R vs' xs') : All2 R (vs ++ vs') (xs ++ xs') := by
  induction h with
  | nil => exact h'
  | cons a _ ih => exact .cons a ih
end
section
variable {prog : Program} {w : World} {A : Around} {s : Shared} {env : Env} {E : Value → Shared → Prop}

/-- the turns of a list comprehension, any target, any tests -/
theorem comp_turns {elt target iter : Expr} {ifs : List Expr} {scope : Scope} {pos : Pos} {it acc : Value} {R : Result → Shared → Prop} (J : Nat → Shared → Prop)
    (turn : ∀ n s, J n s → wpAny (model prog w) A (pyNext it) (fun r s₁ => match r with
      | none => R (.ok .next) s₁
      | some v => wpAny (model prog w) A (letOwnedTupleGo target it v) (fun _ s₀ => wpAny (model prog w) A (assign target env v) (fun _ s₂ =>
          wpAny (model prog w) A (forIn ifs true fun c r => if r = true then do let ok ← isTrue c env (eval c env); pure (ForInStep.yield ok) else pure (ForInStep.yield r)) (fun ok s₃ =>
            if ok = true then wpAny (model prog w) A (eval elt env) (fun x s₄ =>
              wpAny (model prog w) A (call (.builtin "list.append") [acc, x]) (fun _ s₅ => ∃ m, m < n ∧ J m s₅) (notedBy (model prog w) A env fun e s' => R (.error e) s') s₄) (notedBy (model prog w) A env fun e s' => R (.error e) s') s₃
            else ∃ m, m < n ∧ J m s₃) (notedBy (model prog w) A env fun e s' => R (.error e) s') s₂) (notedBy (model prog w) A env fun e s' => R (.error e) s') s₀) (notedBy (model prog w) A env fun e s' => R (.error e) s') s₁) (notedBy (model prog w) A env fun e s' => R (.error e) s') s)
    (n : Nat) (h : J n s) : codeAny (model prog w) A (.compLoop (.ListComp elt [⟨target, iter, ifs, 0⟩] scope pos) 0 it acc env) R s := by
  refine codeAny_loop rfl J (fun n s hJ => ?_) n h
  show wpAny _ A ((compTurn (.ListComp elt [⟨target, iter, ifs, 0⟩] scope pos) 0 it acc env).onRaise (fun x => do noteFrame x env; theTreesLotGoes x)) _ _ s
  refine wpAny_noted ?_
  rw [compTurn_list]
  refine wpAny_bind (wpAny_standAt (wpAny_bind (wpAny_mono (turn n s hJ) (fun r s₁ h₁ => ?_) fun _ _ q => q)))
  cases r with
  | none => exact wpAny_pure h₁
  | some v =>
    refine wpAny_bind (wpAny_mono h₁ (fun _ s₀ h₀ => ?_) fun _ _ q => q)
    refine wpAny_bind (wpAny_mono h₀ (fun _ s₂ h₂ => ?_) fun _ _ q => q)
    refine wpAny_bind (wpAny_mono h₂ (fun ok s₃ h₃ => ?_) fun _ _ q => q)
    cases ok with
    | false => exact wpAny_pure ⟨rfl, h₃⟩
    | true => exact wpAny_bind (wpAny_bind (wpAny_mono h₃ (fun x s₄ h₄ => wpAny_bind (wpAny_mono h₄ (fun _ s₅ h₅ => wpAny_pure (wpAny_pure ⟨rfl, h₅⟩)) fun _ _ q => q)) fun _ _ q => q))

/-- what a comprehension's target binds -/
inductive Binds (nw : Ledger) (scope : Scope) : Expr → Value → List (Str × Value) → Prop
  | name {x : Str} {px : Pos} {v : Value} : scope.names.lookup x = some .local → Binds nw scope (.Name x px) v [(x, v)]
  | pair {a b : Str} {pa pb tp : Pos} {k n : Nat} {t : Addr} {v0 v1 : Value} : (t, tupOf #[v0, v1] n) ∈ nw → scope.names.lookup a = some .local → scope.names.lookup b = some .local → a ≠ b →
      Binds nw scope (.Tuple [.Name a pa, .Name b pb] k tp) (.ref t) [(a, v0), (b, v1)]

theorem comp_assign {target : Expr} {scope : Scope} {cl : List (Str × Addr)} {C : Addr} {v : Value} {bs : List (Str × Value)} {nw : Ledger} {m₂ : Str → Option Value} {Q : Unit → Shared → Prop} (hh : A.handled = none) (hb : Binds nw scope target v bs) (hkind : scope.kind = .function)
    (hn : s.heap.Ns C m₂) (N : ∀ p ∈ nw, s.heap.get? p.1 = some p.2 ∧ p.1 ≠ C)
    (h : ∀ h' tk m₃, h'.Ns C m₃ → (∀ b ∈ bs, m₃ b.1 = some b.2) → (∀ b o, b ≠ C → s.heap.get? b = some o → h'.get? b = some o) → Q () { s with heap := h', toks := tk }) :
    wpAny (model prog w) A (assign target (compEnvC scope cl C env) v) Q E s := by
  have hp : ((compEnvC scope cl C env).scope.kind == .class || ((compEnvC scope cl C env).scope.kind == .module && (compEnvC scope cl C env).locals != (compEnvC scope cl C env).globals)) = false := by
    show (scope.kind == .class || (scope.kind == .module && _)) = false
    rw [hkind]; rfl
  cases hb with
  | name hx =>
    refine wpAny_assign_Name (wpAny_storeName_local (show (compEnvC scope cl C env).kindOf _ = some .local from lookup_relabel_local hx) hn (fun h' hn' hs => ?_) hp)
    refine h h' _ _ hn' (fun b hb => ?_) fun b o ne q => hs.extBut b o ne q
    rw [List.mem_singleton.mp hb]
    simp
  | @pair a b pa pb tp k n t v0 v1 ht ha hb hab =>
    refine wpAny_assign_Tuple (items := #[v0, v1]) hh ⟨_, (N _ ht).1, rfl, n, rfl⟩ rfl rfl fun h₁ e₁ => ?_
    have k₁ : ∀ b o, s.heap.get? b = some o → h₁.get? b = some o := fun b o q => e₁ b o (Nat.ne_of_lt (Heap.lt_size q)) q
    have hn₁ : h₁.Ns C m₂ := hn.at' fun o q => k₁ _ _ q
    show wpAny _ A (assignInOrder [assign (.Name a pa) _, assign (.Name b pb) _] [v0, v1]) _ _ _
    refine wpAny_assignInOrder_more (wpAny_assign_Name (wpAny_storeName_local (show (compEnvC scope cl C env).kindOf _ = some .local from lookup_relabel_local ha) hn₁ (fun h₂ hn₂ hs₂ => ?_) hp))
    refine wpAny_assignInOrder_more (wpAny_assign_Name (wpAny_storeName_local (show (compEnvC scope cl C env).kindOf _ = some .local from lookup_relabel_local hb) hn₂ (fun h₃ hn₃ hs₃ => ?_) hp))
    refine wpAny_assignInOrder_none (h h₃ _ _ hn₃ (fun q hq => ?_) fun q o ne e => hs₃.extBut q o ne (hs₂.extBut q o ne (k₁ q o e)))
    simp only [List.mem_cons, List.not_mem_nil, or_false] at hq
    rcases hq with rfl | rfl
    · simp [hab]
    · simp

inductive CompKeep (h₀ : Heap) (L : Addr) (m : Str → Option Value) (nw : Ledger) (s : Shared) : Shared → Prop
  | of {h' : Heap} {nw' : Ledger} {tk : Nat} (F : Fr h₀ L h' m) (N : News h₀ L h' nw') (sub : ∀ p ∈ nw, p ∈ nw') : CompKeep h₀ L m nw s { s with heap := h', toks := tk }
noncomputable def CompTest (prog : Program) (w : World) (A : Around) (cenv : Env) (ifs : List Expr) (after : Bool → Shared → Prop) (E : Value → Shared → Prop) (s : Shared) : Prop :=
  match ifs with
  | [] => after true s
  | [c] => wpAny (model prog w) A (isTrue c cenv (eval c cenv)) after E s
  | _ => False
/-- one turn of a comprehension, its target bound: it stores nothing -/
noncomputable def CompTurn (prog : Program) (w : World) (A : Around) (h₀ : Heap) (L : Addr) (m : Str → Option Value) (nw : Ledger) (scope : Scope) (cl : List (Str × Addr)) (env : Env) (elt : Expr) (ifs : List Expr) (bs : List (Str × Value)) (pv : Bool) (gv : Value) : Prop :=
  ∀ (C : Addr) (s : Shared) (oC : Obj) (m₂ : Str → Option Value) (I : Addr) (oI : Obj) (D : Addr) (oD : Obj) (E' : Value → Shared → Prop), LCg.NsObj oC m₂ → (∀ b ∈ bs, m₂ b.1 = some b.2) → Fr h₀ L s.heap m → News h₀ L s.heap ((I, oI) :: (C, oC) :: (D, oD) :: nw) →
    CompTest prog w A (compEnvC scope cl C env) ifs (fun ok s₅ => ok = pv ∧ CompKeep h₀ L m ((I, oI) :: (C, oC) :: (D, oD) :: nw) s s₅ ∧
      (pv = true → wpAny (model prog w) A (eval elt (compEnvC scope cl C env)) (fun y s₆ => y = gv ∧ CompKeep h₀ L m ((I, oI) :: (C, oC) :: (D, oD) :: nw) s s₆) E' s₅)) E' s
/-- a turn whose parts are plain -/
theorem CompTurn.ev0 {h₀ : Heap} {L : Addr} {m : Str → Option Value} {nw : Ledger} {scope : Scope} {cl : List (Str × Addr)} {elt : Expr} {bs : List (Str × Value)} {gv : Value} {k : Nat}
    (e : ∀ (C : Addr) (s : Shared) (oC : Obj) (m₂ : Str → Option Value) (I : Addr) (oI : Obj) (D : Addr) (oD : Obj), LCg.NsObj oC m₂ → (∀ b ∈ bs, m₂ b.1 = some b.2) → let n9 := (I, oI) :: (C, oC) :: (D, oD) :: nw; Fr h₀ L s.heap m → News h₀ L s.heap n9 → Ev prog w A s 0 (eval elt (compEnvC scope cl C env)) gv k) : CompTurn prog w A h₀ L m nw scope cl env elt [] bs true gv :=
  fun C s oC m₂ I oI D oD _ hC hb F N => ⟨rfl, CompKeep.of F N fun _ h => h, fun _ => (e C s oC m₂ I oI D oD hC hb F N).go _ _ ⟨rfl, CompKeep.of F N fun _ h => h⟩⟩
theorem CompTurn.ev1 {h₀ : Heap} {L : Addr} {m : Str → Option Value} {nw : Ledger} {scope : Scope} {cl : List (Str × Addr)} {elt c : Expr} {bs : List (Str × Value)} {gv : Value} {pv pv' : Bool} {k k' : Nat} (hp : pv' = pv)
    (e : ∀ (C : Addr) (s : Shared) (oC : Obj) (m₂ : Str → Option Value) (I : Addr) (oI : Obj) (D : Addr) (oD : Obj), LCg.NsObj oC m₂ → (∀ b ∈ bs, m₂ b.1 = some b.2) → let n9 := (I, oI) :: (C, oC) :: (D, oD) :: nw; Fr h₀ L s.heap m → News h₀ L s.heap n9 → Ev prog w A s 0 (isTrue c (compEnvC scope cl C env) (eval c (compEnvC scope cl C env))) pv' k ∧ Ev prog w A s k (eval elt (compEnvC scope cl C env)) gv k') : CompTurn prog w A h₀ L m nw scope cl env elt [c] bs pv gv :=
  fun C s oC m₂ I oI D oD _ hC hb F N => have q := e C s oC m₂ I oI D oD hC hb F N
    q.1.go _ _ ⟨hp, CompKeep.of F N fun _ h => h, fun _ => q.2.go _ _ ⟨rfl, CompKeep.of F N fun _ h => h⟩⟩
theorem Ev.mO {s : Shared} {h₀ : Heap} {L C : Addr} {k : Nat} {news : Ledger} {oC : Obj} {m₂ : Str → Option Value} {scope : Scope} {cl : List (Str × Addr)} {x : Str} {pos : Pos} {v : Value} (N : News h₀ L s.heap news) (hC : LCg.NsObj oC m₂) (hl : some .local = (compEnvC scope cl C env).kindOf x) (hk : ScopeKind.function = scope.kind) (hm : (C, oC) ∈ news) (hx : m₂ x = some v) (hd : false = (x == ("__debug__" : Str))) :
    Ev prog w A s k (eval (.Name x pos) (compEnvC scope cl C env)) v k := .mk fun _ _ h => LCgL.ld_own (s := adv s k) N hm hC hx h hk.symm hl.symm hd.symm
theorem Ev.mF {s : Shared} {h₀ : Heap} {L C c : Addr} {k : Nat} {news : Ledger} {o : Obj} {scope : Scope} {cl : List (Str × Addr)} {x : Str} {pos : Pos} {v : Value} (N : News h₀ L s.heap news) (hl : some .free = (compEnvC scope cl C env).kindOf x) (hk : ScopeKind.function = scope.kind) (hc : some c = cl.lookup x) (hm : (c, o) ∈ news) (hv : o.data = .cell (some v)) (hd : false = (x == ("__debug__" : Str))) (hn : false = (x == ("__classdict__" : Str))) :
    Ev prog w A s k (eval (.Name x pos) (compEnvC scope cl C env)) v k := .mk fun _ _ h => lcf_free (s := adv s k) N hc.symm hm hv h hk.symm hl.symm hd.symm hn.symm
theorem Ev.mC {s : Shared} {h₀ : Heap} {L C c : Addr} {k : Nat} {news : Ledger} {o : Obj} {scope : Scope} {cl : List (Str × Addr)} {x : Str} {pos : Pos} {v : Value} (N : News h₀ L s.heap news) (hl : some .cell = (compEnvC scope cl C env).kindOf x) (hk : ScopeKind.function = scope.kind) (hc : some c = cl.lookup x) (hm : (c, o) ∈ news) (hv : o.data = .cell (some v)) (hd : false = (x == ("__debug__" : Str))) :
    Ev prog w A s k (eval (.Name x pos) (compEnvC scope cl C env)) v k := .mk fun _ _ h => lcf_cell (s := adv s k) N hc.symm hm hv h hk.symm hl.symm hd.symm
theorem Ev.andT {s : Shared} {k k1 k2 : Nat} {a b : Expr} {pos : Pos} {x y : Bool} {whole : Sem Value} (h1 : Ev prog w A s k (isTrue a env (eval a env)) x k1) (h2 : Ev prog w A s k1 (isTrue b env (eval b env)) y k2) : Ev prog w A s k (isTrue (.BoolOp .And [a, b] pos) env whole) (x && y) (cond x k2 k1) := .mk fun _ _ h => isTrue_and (h1.go _ _ (by
  cases x
  · exact h
  · exact isTrue_and (h2.go _ _ (by
      cases y
      · exact h
      · exact isTrue_and_nil h))))
theorem Ev.orT {s : Shared} {k k1 k2 : Nat} {a b : Expr} {pos : Pos} {x y : Bool} {whole : Sem Value} (h1 : Ev prog w A s k (isTrue a env (eval a env)) x k1) (h2 : Ev prog w A s k1 (isTrue b env (eval b env)) y k2) : Ev prog w A s k (isTrue (.BoolOp .Or [a, b] pos) env whole) (x || y) (cond x k1 k2) := .mk fun _ _ h => isTrue_or (h1.go _ _ (by
  cases x
  · exact isTrue_or (h2.go _ _ (by
      cases y
      · exact isTrue_or_nil h
      · exact h))
  · exact h))

theorem comp_append {D : Addr} {its : Array Value} {n : Nat} {x : Value} {Q : Value → Shared → Prop} (hD : s.heap.get? D = some (listOf its n)) (hsz : its.size ≤ sizeLine)
    (h : ∀ h', Heap.SameBut D s.heap h' → h'.get? D = some (listOf (its.push x) (n + 1)) → Q .none { s with heap := h' }) : wpAny (model prog w) A (call (.builtin "list.append") [.ref D, x]) Q E s :=
  append_at (hsz := hsz) hD fun h' hs ho' => h h' hs ho'

/-- a comprehension's source: a list or a tuple of the ledger -/
noncomputable def srcO (tup : Bool) (vs : List Value) (n : Nat) : Obj := match tup with
  | true => tupOf vs.toArray n
  | false => listOf vs.toArray n
noncomputable def SIt (tup : Bool) (h : Heap) (I l : Addr) (i : Nat) : Prop := match tup with
  | true => h.IsTupleIter I l i
  | false => h.IsListIter I l i
theorem SIt.at {tup : Bool} {h h' : Heap} {I l : Addr} {i : Nat} (x : SIt tup h I l i) (e : ∀ o, h.get? I = some o → h'.get? I = some o) : SIt tup h' I l i := by
  cases tup
  · exact Heap.IsListIter.at x e
  · exact Heap.IsTupleIter.at x e
theorem SIt.obj {tup : Bool} {h : Heap} {I l : Addr} {i : Nat} (x : SIt tup h I l i) : ∃ o, h.get? I = some o := by
  cases tup
  · obtain ⟨o, ho, _⟩ := x; exact ⟨o, ho⟩
  · obtain ⟨o, ho, _⟩ := x; exact ⟨o, ho⟩
theorem SIt.letgo {tup : Bool} {target : Expr} {I l : Addr} {i : Nat} {v : Value} {Q : Unit → Shared → Prop} (x : SIt tup s.heap I l i) (h : Q () s) : wpAny (model prog w) A (letOwnedTupleGo target (.ref I) v) Q E s := by
  cases tup
  · exact letGo_listiter x h
  · exact letGo_tupleiter x h
theorem SIt.self {tup : Bool} {I l : Addr} {i : Nat} {Q : Value → Shared → Prop} (x : SIt tup s.heap I l i) (h : Q (.ref I) s) : wpAny (model prog w) A (pyIter (.ref I)) Q E s := by
  cases tup
  · exact wpAny_pyIter_listiter x h
  · exact wpAny_pyIter_tupleiter x h
theorem SIt.item {tup : Bool} {I l : Addr} {i n : Nat} {vs : List Value} {v : Value} {Q : Option Value → Shared → Prop} (x : SIt tup s.heap I l i) (ho : s.heap.get? l = some (srcO tup vs n)) (hv : vs[i]? = some v)
    (h : ∀ h', SIt tup h' I l (i + 1) → Heap.SameBut I s.heap h' → Q (some v) { s with heap := h' }) : wpAny (model prog w) A (pyNext (.ref I)) Q E s := by
  cases tup
  · exact wpAny_pyNext_list_item x ⟨_, ho, rfl, n, rfl⟩ (by simpa using hv) h
  · exact wpAny_pyNext_tuple_item x ⟨_, ho, rfl, n, rfl⟩ (by simpa using hv) h
theorem SIt.fin {tup : Bool} {I l : Addr} {i n : Nat} {vs : List Value} {Q : Option Value → Shared → Prop} (hh : A.handled = none) (x : SIt tup s.heap I l i) (ho : s.heap.get? l = some (srcO tup vs n)) (hv : vs[i]? = none)
    (h : ∀ h', Heap.ExtBut I s.heap h' → Q none { s with heap := h' }) : wpAny (model prog w) A (pyNext (.ref I)) Q E s := by
  cases tup
  · exact wpAny_pyNext_list_end hh x ⟨_, ho, rfl, n, rfl⟩ (by simpa using hv) h
  · exact wpAny_pyNext_tuple_end hh x ⟨_, ho, rfl, n, rfl⟩ (by simpa using hv) h
theorem SIt.start {tup : Bool} {l : Addr} {n : Nat} {vs : List Value} {Q : Value → Shared → Prop} (ho : s.heap.get? l = some (srcO tup vs n))
    (h : ∀ oI, oI.isFreed = false → SIt tup (s.heap.push oI) s.heap.objs.size l 0 → Q (.ref s.heap.objs.size) { s with heap := s.heap.push oI }) : wpAny (model prog w) A (pyIter (.ref l)) Q E s := by
  cases tup
  · exact wpAny_pyIter_list ⟨_, ho, rfl, n, rfl⟩ (h _ rfl ⟨_, Heap.get?_push_size _ rfl, rfl, rfl⟩)
  · exact wpAny_pyIter_tuple ⟨_, ho, rfl, n, rfl⟩ (h _ rfl ⟨_, Heap.get?_push_size _ rfl, rfl, rfl⟩)

variable {α : Type} {h₀ : Heap} {L : Addr} {m : Str → Option Value} {nw : Ledger}
inductive CompJ (h₀ : Heap) (L : Addr) (m : Str → Option Value) (nw : Ledger) (I C D l : Addr) (tup : Bool) (z : Nat) (acc : Nat → List Value) (s : Shared) (k : Nat) : Shared → Prop
  | mk {h' : Heap} {tk i n' : Nat} {m' : Str → Option Value} (hit : SIt tup h' I l i) (hD : h'.get? D = some (listOf (acc i).toArray n')) (hC : h'.Ns C m') (hi : i ≤ z) (hk : k = z + 1 - i) (F : Fr h₀ L h' m) (N : News h₀ L h' nw) : CompJ h₀ L m nw I C D l tup z acc s k { s with heap := h', toks := tk }
theorem comp_loop {elt target iter : Expr} {ifs : List Expr} {scope : Scope} {cl : List (Str × Addr)} {pos : Pos} {R : Result → Shared → Prop} {I C D l : Addr} {vs : List Value} {xs : List α} {n : Nat} {tup : Bool} {m₀ : Str → Option Value} {RR : Value → α → Prop} (p : α → Bool) (g : α → Value)
    (hh : A.handled = none) (hkind : scope.kind = .function) (hxs : All2 RR vs xs) (hit : SIt tup s.heap I l 0) (F : Fr h₀ L s.heap m) (hC : s.heap.Ns C m₀) (hD : s.heap.get? D = some (listOf #[] 0)) (N : News h₀ L s.heap nw) (hl : (l, srcO tup vs n) ∈ nw) (hsz : vs.length ≤ sizeLine)
    (fI : h₀.get? I = none ∧ I ≠ L) (fC : h₀.get? C = none ∧ C ≠ L) (fD : h₀.get? D = none ∧ D ≠ L) (hID : I ≠ D) (hIC : I ≠ C) (hDC : D ≠ C) (off : ∀ p ∈ nw, p.1 ≠ I ∧ p.1 ≠ C ∧ p.1 ≠ D)
    (turn : ∀ v x, v ∈ vs → RR v x → ∃ bs, Binds nw scope target v bs ∧ CompTurn prog w A h₀ L m nw scope cl env elt ifs bs (p x) (g x))
    (hR : ∀ h' tk m' n', h'.Ns C m' → Fr h₀ L h' m → News h₀ L h' ((D, listOf ((xs.filter p).map g).toArray n') :: nw) → R (.ok .next) { s with heap := h', toks := tk }) :
    codeAny (model prog w) A (.compLoop (.ListComp elt [⟨target, iter, ifs, 0⟩] scope pos) 0 (.ref I) (.ref D) (compEnvC scope cl C env)) R s := by
  have hlen : vs.length = xs.length := hxs.length
  obtain ⟨acc, hacc⟩ : ∃ acc : Nat → List Value, ∀ i, acc i = ((xs.take i).filter p).map g := ⟨_, fun _ => rfl⟩
  refine comp_turns (CompJ h₀ L m nw I C D l tup vs.length acc s) ?_ (vs.length + 1) (.mk hit (by rw [hacc]; simpa using hD) hC (Nat.zero_le _) rfl F N)
  intro k s' hJ9
  cases hJ9 with
  | @mk H tk i n' m' hit' hD' hn' hi hk F' N' =>
  subst hk
  have hl' : H.get? l = some (srcO tup vs n) := (N' _ hl).1
  have F_ : ∀ {h₁ h₂ : Heap} {a : Addr}, (∀ b o, b ≠ a → h₁.get? b = some o → h₂.get? b = some o) → h₀.get? a = none ∧ a ≠ L → Fr h₀ L h₁ m → Fr h₀ L h₂ m := fun hk fa F => ⟨F.ns.at' fun o q => hk _ o (Ne.symm fa.2) q, fun b o q => hk b o (fun e => by rw [e, fa.1] at q; cases q) (F.keep b o q), F.above⟩
  have N_ : ∀ {h₁ h₂ : Heap} {a : Addr}, (∀ b o, b ≠ a → h₁.get? b = some o → h₂.get? b = some o) → (∀ p ∈ nw, p.1 ≠ a) → News h₀ L h₁ nw → News h₀ L h₂ nw := fun hk ha N p hp => ⟨hk _ _ (ha p hp) (N p hp).1, (N p hp).2⟩
  cases hv : vs[i]? with
  | none =>
    have hsz' : i = vs.length := Nat.le_antisymm hi (by simpa using hv)
    refine SIt.fin (n := n) hh hit' hl' hv fun h₂ he₂ => ?_
    subst hsz'
    rw [hacc, hlen, List.take_length] at hD'
    refine hR h₂ tk m' n' (hn'.extBut he₂ (Ne.symm hIC)) (F_ he₂ fI F') fun q hq => ?_
    rcases List.mem_cons.mp hq with rfl | hq
    · exact ⟨he₂ _ _ (Ne.symm hID) hD', fD.2, fD.1⟩
    · exact N_ he₂ (fun p hp => (off p hp).1) N' q hq
  | some v =>
    have hlt : i < vs.length := (List.getElem?_eq_some_iff.mp hv).1
    have hmem : v ∈ vs := List.mem_of_getElem? hv
    obtain ⟨x, hx, hr⟩ := hxs.get hv
    obtain ⟨bs, hb, ht⟩ := turn v x hmem hr
    refine SIt.item (n := n) hit' hl' hv fun h₂ hit₂ hs₂ => ?_
    refine SIt.letgo hit₂ ?_
    have F₂ := F_ hs₂.extBut fI F'
    have N₂ := N_ hs₂.extBut (fun p hp => (off p hp).1) N'
    have hD₂ := hs₂.extBut _ _ (Ne.symm hID) hD'
    refine comp_assign (s := { s with heap := h₂, toks := tk }) hh hb hkind (hn'.sameBut hs₂ (Ne.symm hIC)) (fun p hp => ⟨(N₂ p hp).1, (off p hp).2.1⟩) fun h₃ tk₃ m₃ hn₃ hbs hk₃ => ?_
    have F₃ := F_ hk₃ fC F₂
    have N₃ := N_ hk₃ (fun p hp => (off p hp).2.1) N₂
    have hD₃ := hk₃ _ _ hDC hD₂
    have hit₃ : SIt tup h₃ I l (i + 1) := hit₂.at fun o q => hk₃ _ o hIC q
    obtain ⟨oI, hoI⟩ := hit₃.obj
    obtain ⟨oC, hoC, hnC⟩ := LCg.ns_obj hn₃
    have N₃' : News h₀ L h₃ ((I, oI) :: (C, oC) :: (D, listOf (acc i).toArray n') :: nw) := by
      intro q hq
      rcases List.mem_cons.mp hq with rfl | hq
      · exact ⟨hoI, fI.2, fI.1⟩
      rcases List.mem_cons.mp hq with rfl | hq
      · exact ⟨hoC, fC.2, fC.1⟩
      rcases List.mem_cons.mp hq with rfl | hq
      · exact ⟨hD₃, fD.2, fD.1⟩
      · exact N₃ q hq
    have key := fun E' => ht C { s with heap := h₃, toks := tk₃ } oC m₃ I oI D _ E' hnC hbs F₃ N₃'
    have hit₅ : ∀ {h₅ : Heap} {nw' : Ledger}, News h₀ L h₅ nw' → (∀ p ∈ (I, oI) :: (C, oC) :: (D, listOf (acc i).toArray n') :: nw, p ∈ nw') → SIt tup h₅ I l (i + 1) ∧ h₅.get? D = some (listOf (acc i).toArray n') ∧ h₅.Ns C m₃ ∧ News h₀ L h₅ nw := fun N₅ hs₅ =>
      ⟨hit₃.at fun o q => by
        rw [hoI] at q
        cases q
        exact (N₅ _ (hs₅ (I, oI) List.mem_cons_self)).1, (N₅ _ (hs₅ (D, _) (List.mem_cons_of_mem _ (List.mem_cons_of_mem _ List.mem_cons_self)))).1, hnC.ns (N₅ _ (hs₅ (C, oC) (List.mem_cons_of_mem _ List.mem_cons_self))).1,
        fun q hq => N₅ q (hs₅ q (List.mem_cons_of_mem _ (List.mem_cons_of_mem _ (List.mem_cons_of_mem _ hq))))⟩
    have ht' : acc (i + 1) = if p x = true then acc i ++ [g x] else acc i := by
      rw [hacc, hacc, List.take_add_one, hx, List.filter_append, List.map_append]
      cases hp : p x <;> simp [hp]
    have fin : ∀ E' ok s₅, (ok = p x ∧ CompKeep h₀ L m ((I, oI) :: (C, oC) :: (D, listOf (acc i).toArray n') :: nw) { s with heap := h₃, toks := tk₃ } s₅ ∧
        (p x = true → wpAny (model prog w) A (eval elt (compEnvC scope cl C env)) (fun y s₆ => y = g x ∧ CompKeep h₀ L m ((I, oI) :: (C, oC) :: (D, listOf (acc i).toArray n') :: nw) { s with heap := h₃, toks := tk₃ } s₆) E' s₅)) →
        (if ok = true then wpAny (model prog w) A (eval elt (compEnvC scope cl C env)) (fun y s₄ =>
          wpAny (model prog w) A (call (.builtin "list.append") [.ref D, y]) (fun _ s' => ∃ m_1, m_1 < vs.length + 1 - i ∧ CompJ h₀ L m nw I C D l tup vs.length acc s m_1 s') E' s₄) E' s₅
        else ∃ m_1, m_1 < vs.length + 1 - i ∧ CompJ h₀ L m nw I C D l tup vs.length acc s m_1 s₅) := by
      rintro E' ok s₅ ⟨rfl, hk₅, hy⟩
      cases hp : p x with
      | false =>
        simp only [Bool.false_eq_true, if_false]
        cases hk₅ with
        | of F₅ N₅ hs₅ =>
        obtain ⟨a, b, c, e⟩ := hit₅ N₅ hs₅
        exact ⟨vs.length + 1 - (i + 1), by omega, .mk a (by rw [ht', hp]; exact b) c hlt rfl F₅ e⟩
      | true =>
        simp only [if_true]
        refine wpAny_mono (hy hp) (fun y s₆ h₆ => ?_) fun _ _ q => q
        obtain ⟨rfl, hk₆⟩ := h₆
        cases hk₆ with
        | of F₅ N₅ hs₅ =>
        obtain ⟨a, b, c, e⟩ := hit₅ N₅ hs₅
        have hlen : (acc i).length ≤ sizeLine := by
          have e1 := List.length_filter_le p (xs.take i)
          have e2 : (xs.take i).length ≤ xs.length := by rw [List.length_take]; omega
          rw [hacc, List.length_map]; omega
        refine comp_append b (by rw [List.size_toArray]; exact hlen) fun h₇ hs₇ hD₇ => ?_
        rw [List.push_toArray] at hD₇
        exact ⟨vs.length + 1 - (i + 1), by omega, .mk (a.at fun o q => hs₇.extBut _ o hID q) (by rw [ht', hp]; exact hD₇) (c.sameBut hs₇ (Ne.symm hDC)) hlt rfl (F_ hs₇.extBut fD F₅) (N_ hs₇.extBut (fun p hp => (off p hp).2.2) e)⟩
    unfold CompTest at key
    cases ifs with
    | nil => exact wpAny_pure (fin _ _ _ (key _))
    | cons c r =>
      cases r with
      | nil =>
        rw [List.forIn_cons]
        simp only [if_true]
        refine wpAny_bind (wpAny_bind (wpAny_mono (key _) (fun ok s₅ h₅ => ?_) fun _ _ q => q))
        exact wpAny_pure (wpAny_pure (fin _ _ _ h₅))
      | cons c' r => exact (key fun _ _ => True).elim

theorem comp_block {elt target iter : Expr} {ifs : List Expr} {scope : Scope} {cl : List (Str × Addr)} {pos : Pos} {s₂ : Shared} {I l : Addr} {vs : List Value} {xs : List α} {n : Nat} {tup : Bool} {RR : Value → α → Prop} (p : α → Bool) (g : α → Value) {W : Value → Addr → Result → Shared → Prop}
    (hh : A.handled = none) (hxs : All2 RR vs xs) (hit : SIt tup s₂.heap I l 0) (F : Fr h₀ L s₂.heap m) (N : News h₀ L s₂.heap nw) (hl : (l, srcO tup vs n) ∈ nw) (hsz : vs.length ≤ sizeLine) (fI : h₀.get? I = none ∧ I ≠ L) (off : ∀ p ∈ nw, p.1 ≠ I)
    (hcell : ∀ y ∈ scope.names, y.2 ≠ .cell) (hkind : scope.kind = .function)
    (turn : ∀ v x, v ∈ vs → RR v x → ∃ bs, Binds nw scope target v bs ∧ CompTurn prog w A h₀ L m nw scope cl env elt ifs bs (p x) (g x))
    (hW : ∀ D C h' tk m' n', h₀.get? C = none → C ≠ L → (∀ p ∈ nw, p.1 ≠ C) → D ≠ C → h'.Ns C m' → (∀ p ∈ nw, @LT.lt Nat _ p.1 D) → Fr h₀ L h' m → News h₀ L h' ((D, listOf ((xs.filter p).map g).toArray n') :: nw) → W (.ref D) C (.ok .next) { s₂ with heap := h', toks := tk }) :
    wpAny (model prog w) A (newList []) (fun acc s₃ => wpAny (model prog w) A (newFunctionEnv scope env.globals cl [] env.qual none .none (some env)) (fun cenv s₄ =>
      codeAny (model prog w) A (.compStart (.ListComp elt [⟨target, iter, ifs, 0⟩] scope pos) 0 (.ref I) acc { cenv with scope := relabel scope env }) (W acc cenv.locals) s₄) E s₃) E s₂ := by
  refine wpAny_newObj_type (wpAny_newFunctionEnv hcell (by intro y hy; simp at hy) (fun hA hns hsb => ?_) hkind)
  dsimp only at hns hsb ⊢
  generalize hH2 : s₂.heap.push { cls := .type "list", dict := none, data := .seq ([] : List Value).toArray } = H2 at hns hsb ⊢
  have hC : H2.objs.size = s₂.heap.objs.size + 1 := by rw [← hH2, Heap.size_push]
  have hDC : s₂.heap.objs.size ≠ H2.objs.size := by rw [hC]; exact Nat.ne_of_lt (Nat.lt_succ_self _)
  have hIlt : I < s₂.heap.objs.size := by obtain ⟨o, ho⟩ := hit.obj; exact Heap.lt_size ho
  have hLlt : L < s₂.heap.objs.size := F.ns.lt
  have below : ∀ b, b < s₂.heap.objs.size → b ≠ H2.objs.size ∧ b ≠ s₂.heap.objs.size := fun b hb => ⟨by rw [hC]; exact Nat.ne_of_lt (Nat.lt_succ_of_lt hb), Nat.ne_of_lt hb⟩
  have up : ∀ b o, s₂.heap.get? b = some o → hA.get? b = some o := fun b o q => hsb.extBut b o (below b (Heap.lt_size q)).1 (Heap.get?_push_of_some _ (hH2 ▸ Heap.get?_push_of_some _ q))
  have fresh : ∀ a, s₂.heap.objs.size ≤ a → h₀.get? a = none := fun a ha => by
    cases q : h₀.get? a with
    | none => rfl
    | some o' => exact absurd (Heap.lt_size (F.keep _ _ q)) (Nat.not_lt.mpr ha)
  have hacc : hA.get? s₂.heap.objs.size = some (listOf #[] 0) := hsb.extBut _ _ hDC (Heap.get?_push_of_some _ (hH2 ▸ Heap.get?_push_size _ rfl))
  have hitA : SIt tup hA I l 0 := hit.at fun o q => up _ o q
  have lt : ∀ p ∈ nw, @LT.lt Nat _ p.1 s₂.heap.objs.size := fun p hp => Heap.lt_size (N p hp).1
  have fC : h₀.get? H2.objs.size = none ∧ H2.objs.size ≠ L := ⟨fresh _ (by rw [hC]; exact Nat.le_succ _), Ne.symm (below L hLlt).1⟩
  have fD : h₀.get? s₂.heap.objs.size = none ∧ s₂.heap.objs.size ≠ L := ⟨fresh _ (Nat.le_refl _), Ne.symm (below L hLlt).2⟩
  have loop : ∀ s₃ : Shared, s₃ = { s₂ with heap := hA, toks := s₂.toks + ([] : List (Str × Value)).length } →
      codeAny (model prog w) A (.compLoop (.ListComp elt [⟨target, iter, ifs, 0⟩] scope pos) 0 (.ref I) (.ref s₂.heap.objs.size) (compEnvC scope cl H2.objs.size env)) (W (.ref s₂.heap.objs.size) H2.objs.size) s₃ := by
    rintro s₃ rfl
    refine comp_loop (C := H2.objs.size) p g hh hkind hxs hitA (F.keeps up) hns hacc (N.grown up) hl hsz fI fC fD (below I hIlt).2 (below I hIlt).1 hDC (fun p hp => ⟨off p hp, (below _ (lt p hp)).1, (below _ (lt p hp)).2⟩) turn
      fun h' tk m' n' hn F' N' => ?_
    exact hW _ _ h' tk m' n' fC.1 fC.2 (fun p hp => (below _ (lt p hp)).1) hDC hn lt F' N'
  exact codeAny_compStart_list (loop _ rfl) (hitA.self (loop _ rfl))

/-- what must be known of a comprehension over a list, or a tuple, of the ledger -/
noncomputable def CompOverS (mk : List Value → Nat → Obj) (prog : Program) (w : World) (A : Around) (h₀ : Heap) (env : Env) (m : Str → Option Value) (target elt : Expr) (ifs : List Expr) (scope : Scope) (cl : List (Str × Addr)) (Fin : Addr → Ledger → Heap → Array GenState → Drawn → Nat → OsState → Prop) (xv : Value) (s₁ : Shared) : Prop :=
  ∃ (α : Type) (l : Addr) (vs : List Value) (xs : List α) (n : Nat) (nw : Ledger) (RR : Value → α → Prop) (p : α → Bool) (g : α → Value), xv = .ref l ∧ A.handled = none ∧ Fr h₀ env.locals s₁.heap m ∧ News h₀ env.locals s₁.heap nw ∧ (l, mk vs n) ∈ nw ∧ vs.length ≤ sizeLine ∧ All2 RR vs xs ∧
    (∀ v x, v ∈ vs → RR v x → ∃ bs, Binds nw scope target v bs ∧ CompTurn prog w A h₀ env.locals m nw scope cl env elt ifs bs (p x) (g x)) ∧
    ∀ D h' tk n', (∀ p ∈ nw, @LT.lt Nat _ p.1 D) → Fr h₀ env.locals h' m → News h₀ env.locals h' ((D, listOf ((xs.filter p).map g).toArray n') :: nw) → Fin D ((D, listOf ((xs.filter p).map g).toArray n') :: nw) h' s₁.gens s₁.drawn tk s₁.os
noncomputable def CompOver (prog : Program) (w : World) (A : Around) (h₀ : Heap) (env : Env) (m : Str → Option Value) (target elt : Expr) (ifs : List Expr) (scope : Scope) (cl : List (Str × Addr)) (Fin : Addr → Ledger → Heap → Array GenState → Drawn → Nat → OsState → Prop) (xv : Value) (s₁ : Shared) : Prop :=
  CompOverS (fun vs n => listOf vs.toArray n) prog w A h₀ env m target elt ifs scope cl Fin xv s₁ ∨ CompOverS (fun vs n => tupOf vs.toArray n) prog w A h₀ env m target elt ifs scope cl Fin xv s₁
theorem CompOver.list {prog : Program} {w : World} {A : Around} {h₀ : Heap} {env : Env} {m : Str → Option Value} {target elt : Expr} {ifs : List Expr} {scope : Scope} {cl : List (Str × Addr)} {Fin : Addr → Ledger → Heap → Array GenState → Drawn → Nat → OsState → Prop} {hs : Heap} {g9 : Array GenState} {d9 : Drawn} {t9 : Nat} {o9 : OsState}
    {α : Type} {l : Addr} {vs : List Value} {xs : List α} {n : Nat} {nw : Ledger} {RR : Value → α → Prop} {p : α → Bool} {g : α → Value} (hh : A.handled = none) (F : Fr h₀ env.locals hs m) (N : News h₀ env.locals hs nw) (hl : (l, listOf vs.toArray n) ∈ nw) (hz : vs.length ≤ sizeLine) (hx : All2 RR vs xs)
    (turn : ∀ v x, v ∈ vs → RR v x → ∃ bs, Binds nw scope target v bs ∧ CompTurn prog w A h₀ env.locals m nw scope cl env elt ifs bs (p x) (g x))
    (fin : ∀ D h' tk n', (∀ p ∈ nw, @LT.lt Nat _ p.1 D) → Fr h₀ env.locals h' m → News h₀ env.locals h' ((D, listOf ((xs.filter p).map g).toArray n') :: nw) → Fin D ((D, listOf ((xs.filter p).map g).toArray n') :: nw) h' g9 d9 tk o9) :
    CompOver prog w A h₀ env m target elt ifs scope cl Fin (.ref l) ⟨hs, g9, d9, t9, o9⟩ := .inl ⟨α, l, vs, xs, n, nw, RR, p, g, rfl, hh, F, N, hl, hz, hx, turn, fin⟩
theorem CompOver.tup {prog : Program} {w : World} {A : Around} {h₀ : Heap} {env : Env} {m : Str → Option Value} {target elt : Expr} {ifs : List Expr} {scope : Scope} {cl : List (Str × Addr)} {Fin : Addr → Ledger → Heap → Array GenState → Drawn → Nat → OsState → Prop} {hs : Heap} {g9 : Array GenState} {d9 : Drawn} {t9 : Nat} {o9 : OsState}
    {α : Type} {l : Addr} {vs : List Value} {xs : List α} {n : Nat} {nw : Ledger} {RR : Value → α → Prop} {p : α → Bool} {g : α → Value} (hh : A.handled = none) (F : Fr h₀ env.locals hs m) (N : News h₀ env.locals hs nw) (hl : (l, tupOf vs.toArray n) ∈ nw) (hz : vs.length ≤ sizeLine) (hx : All2 RR vs xs)
    (turn : ∀ v x, v ∈ vs → RR v x → ∃ bs, Binds nw scope target v bs ∧ CompTurn prog w A h₀ env.locals m nw scope cl env elt ifs bs (p x) (g x))
    (fin : ∀ D h' tk n', (∀ p ∈ nw, @LT.lt Nat _ p.1 D) → Fr h₀ env.locals h' m → News h₀ env.locals h' ((D, listOf ((xs.filter p).map g).toArray n') :: nw) → Fin D ((D, listOf ((xs.filter p).map g).toArray n') :: nw) h' g9 d9 tk o9) :
    CompOver prog w A h₀ env m target elt ifs scope cl Fin (.ref l) ⟨hs, g9, d9, t9, o9⟩ := .inr ⟨α, l, vs, xs, n, nw, RR, p, g, rfl, hh, F, N, hl, hz, hx, turn, fin⟩
theorem CompOver.some {prog : Program} {w : World} {A : Around} {h₀ : Heap} {env : Env} {m : Str → Option Value} {target elt : Expr} {ifs : List Expr} {scope : Scope} {cl : List (Str × Addr)} {Fin : Addr → Ledger → Heap → Array GenState → Drawn → Nat → OsState → Prop} {xv : Value} {s₁ : Shared}
    (h : CompOver prog w A h₀ env m target elt ifs scope cl Fin xv s₁) : ∃ tup, CompOverS (srcO tup) prog w A h₀ env m target elt ifs scope cl Fin xv s₁ := h.elim (fun h => ⟨false, h⟩) fun h => ⟨true, h⟩

theorem compE_K {hp9 : Heap} {g9 : Array GenState} {d9 : Drawn} {t9 : Nat} {o9 : OsState} {elt target iter : Expr} {ifs : List Expr} {scope : Scope} {cl : List (Str × Addr)} {pos : Pos} {Q : Value → Shared → Prop} (_F : Fr h₀ env.locals hp9 m)
    (hclos : closureFor scope env = pure cl) (hcell : ∀ y ∈ scope.names, y.2 ≠ .cell) (hkind : scope.kind = .function) (hnames : ∀ y ∈ scope.names, y.2 = .local → scope.names.lookup y.1 = some .local)
    (h : wpAny (model prog w) A (eval iter env) (CompOver prog w A h₀ env m target elt ifs scope cl (fun D nw h' g d tk o => Q (.ref D) ⟨h', g, d, tk, o⟩)) E ⟨hp9, g9, d9, t9, o9⟩)
    (hs : ∀ x, foldedSetIterable iter env x = pure x) :
    wpAny (model prog w) A (eval (.ListComp elt [⟨target, iter, ifs, 0⟩] scope pos) env) Q E ⟨hp9, g9, d9, t9, o9⟩ := by
  rw [eval_ListComp]
  refine wpAny_comprehension_free (use := none) rfl hs hclos hkind hnames (wpAny_mono h (fun xv s₁ h₁ => ?_) fun _ _ e => e)
  obtain ⟨tup, α, l, vs, xs, n, nw, RR, p, g, rfl, hh, F, N, hl, hsz, hxs, turn, fin⟩ := h₁.some
  refine SIt.start (N _ hl).1 fun oI fI hit => ?_
  have up : ∀ b o, s₁.heap.get? b = some o → (s₁.heap.push oI).get? b = some o := fun b o e => Heap.get?_push_of_some _ e
  refine comp_block (s₂ := { s₁ with heap := _ }) p g hh hxs hit (F.keeps up) (N.grown up) hl hsz ⟨next_is_new F, Nat.ne_of_gt F.ns.lt⟩ (fun p hp => Nat.ne_of_lt (Heap.lt_size (N p hp).1)) hcell hkind turn ?_
  intro D C h' tk m' n' hC₀ hCL hCn hDC hn lt F' N'
  refine ⟨m', hn, fun h'' hs'' => fin D h'' tk n' lt (F'.change hs'' hCL hC₀) fun p hp => ?_⟩
  refine ⟨hs''.extBut _ _ ?_ (N' p hp).1, (N' p hp).2⟩
  rcases List.mem_cons.mp hp with rfl | hp
  · exact hDC
  · exact hCn p hp

theorem compA_K {hp9 : Heap} {g9 : Array GenState} {d9 : Drawn} {t9 : Nat} {o9 : OsState} {elt target iter : Expr} {ifs : List Expr} {scope : Scope} {cl : List (Str × Addr)} {y : Str} {py pos spos : Pos} {Q : Flow → Shared → Prop} (_F : Fr h₀ env.locals hp9 m)
    (hsw : swapsWith (.ListComp elt [⟨target, iter, ifs, 0⟩] scope pos) (some (.Name y py)) spos.line env = pure true)
    (hclos : closureFor scope env = pure cl) (hcell : ∀ y ∈ scope.names, y.2 ≠ .cell) (hkind : scope.kind = .function) (hnames : ∀ y ∈ scope.names, y.2 = .local → scope.names.lookup y.1 = some .local)
    (hy : env.kindOf y = some .local) (hp : (env.scope.kind == .class || (env.scope.kind == .module && env.locals != env.globals)) = false)
    (h : wpAny (model prog w) A (eval iter env) (CompOver prog w A h₀ env m target elt ifs scope cl (fun D nw _ g d _ o => ∀ h'' tk, Fr h₀ env.locals h'' (setm y (.ref D) m) → News h₀ env.locals h'' nw → Q .next ⟨h'', g, d, tk, o⟩)) E ⟨hp9, g9, d9, t9, o9⟩)
    (hs : ∀ x, foldedSetIterable iter env x = pure x) :
    wpAny (model prog w) A (exec (.Assign [.Name y py] (.ListComp elt [⟨target, iter, ifs, 0⟩] scope pos) spos) env) Q E ⟨hp9, g9, d9, t9, o9⟩ := by
  rw [exec_Assign_Name_used _ _ _ _ hsw]
  refine wpAny_bind (wpAny_standAt (wpAny_bind ?_))
  show wpAny _ A (do let _ ← comprehension (.ListComp elt [⟨target, iter, ifs, 0⟩] scope pos) scope env _ (newList []) false (eval iter env) (some (assign (.Name y py) env))) _ _ _
  refine wpAny_bind (wpAny_mono (wpAny_comprehension_free (use := some (assign (.Name y py) env)) (Q := fun _ s' => Q .next s') rfl hs hclos hkind hnames
    (wpAny_mono h (fun xv s₁ h₁ => ?_) fun _ _ e => e)) (fun _ s' hq => wpAny_pure (wpAny_pure hq)) fun _ _ e => e)
  obtain ⟨tup, α, l, vs, xs, n, nw, RR, p, g, rfl, hh, F, N, hl, hsz, hxs, turn, fin⟩ := h₁.some
  refine SIt.start (N _ hl).1 fun oI fI hit => ?_
  have up : ∀ b o, s₁.heap.get? b = some o → (s₁.heap.push oI).get? b = some o := fun b o e => Heap.get?_push_of_some _ e
  refine comp_block (s₂ := { s₁ with heap := _ }) p g hh hxs hit (F.keeps up) (N.grown up) hl hsz ⟨next_is_new F, Nat.ne_of_gt F.ns.lt⟩ (fun p hp => Nat.ne_of_lt (Heap.lt_size (N p hp).1)) hcell hkind turn ?_
  intro D C h' tk m' n' hC₀ hCL hCn hDC hn lt F' N'
  show wpAny _ A (assign (.Name y py) env (.ref D)) _ _ _
  refine wpAny_assign_Name (wpAny_storeName_local hy F'.ns (fun h₂ hn₂ hs₂ => ?_) hp)
  have hL₀ : h₀.get? env.locals = none := Heap.get?_none_of_le F'.above
  have F₂ : Fr h₀ env.locals h₂ (fun z => if z = y then some (.ref D) else m z) := ⟨hn₂, fun b o e => hs₂.extBut b o (fun q => by rw [q, hL₀] at e; cases e) (F'.keep b o e), F'.above⟩
  refine ⟨m', hn.sameBut hs₂ hCL, fun h'' hs'' => fin D h' tk n' lt F' N' h'' _ (F₂.change hs'' hCL hC₀) fun p hp => ?_⟩
  have z : h₂.get? p.1 = some p.2 := hs₂.extBut _ _ (N' p hp).2.1 (N' p hp).1
  refine ⟨hs''.extBut _ _ ?_ z, (N' p hp).2⟩
  rcases List.mem_cons.mp hp with rfl | hp
  · exact hDC
  · exact hCn p hp
end

local macro_rules | `(tactic| walk_at "eval ListComp") => `(tactic| (k_here; k_dflt (refine' compE_K ?F ?c1 ?c2 ?c3 ?c4 ?_ ?hs; (case F => k_asm); (case c1 => rfl); (case c2 => decide); (case c3 => rfl); (case c4 => decide); (case hs => (intro _; with_unfolding_all rfl)))))
local macro_rules | `(tactic| walk_at "exec Assign cons ListComp") => `(tactic| (k_here; k_dflt (refine' compA_K ?F ?sw ?c1 ?c2 ?c3 ?c4 ?y ?p ?_ ?hs; (case F => k_asm); (case sw => rfl); (case c1 => with_unfolding_all rfl); (case c2 => decide); (case c3 => rfl); (case c4 => decide); (case y => rfl); (case p => rfl); (case hs => (intro _; with_unfolding_all rfl)))))
local macro_rules | `(tactic| walk_at "pe") => `(tactic| first | ((with_reducible apply Ev.andT); walk_at "pe"; walk_at "pe") | ((with_reducible apply Ev.orT); walk_at "pe"; walk_at "pe") | ((with_reducible show Ev _ _ _ _ _ (eval (PySem.Expr.Name _ _) (compEnvC _ _ _ _)) _ _); first | ((apply Ev.mO); k_asm; (with_reducible assumption); exact rfl; exact rfl; (focus lge_bears); assumption; exact rfl) | ((apply Ev.mC); k_asm; exact rfl; exact rfl; exact rfl; (focus lge_bears); k_asm; exact rfl) | ((apply Ev.mF); k_asm; exact rfl; exact rfl; exact rfl; (focus lge_bears); k_asm; exact rfl; exact rfl)))
theorem fresh_Rel : True := by
  w_top off
  exact trivial
noncomputable def Kd.word : Kd → Str
  | .block => Str.ofString "block"
  | .iff => Str.ofString "if"
  | .for => Str.ofString "for"
  | .range => Str.ofString "range"
  | .switch => Str.ofString "switch"
  | .typeswitch => Str.ofString "typeswitch"
  | .choose => Str.ofString "choose"
noncomputable def leadWord : Bool → Str
  | true => Str.ofString "break"
  | false => Str.ofString "continue"
inductive LabV : Lab → Value → Prop
  | no : LabV .no .none
  | a {t : Tok} : LabV .a (.str (Str.ofString "A") t)
  | b {t : Tok} : LabV .b (.str (Str.ofString "B") t)
  | u {t : Tok} : LabV .u (.str (Str.ofString "_") t)

mutual
/-- how the ledger bears a statement -/
inductive StmIn (nw : Ledger) : Value → Stm → Prop
  | lead {a : Addr} {brk : Bool} {i n : Nat} {l : Lab} {lv : Value} {t1 t2 : Tok} : (a, tupOf #[.str (leadWord brk) t1, .int i t2, lv] n) ∈ nw → LabV l lv → StmIn nw (.ref a) (.lead brk i l)
  | block {a b : Addr} {i n n' : Nat} {l : Lab} {t1 t2 : Tok} {vs : List Value} {ss : List Stm} : (a, tupOf #[.str (Str.ofString "block") t1, .int i t2, .ref b] n) ∈ nw → (b, tupOf vs.toArray n') ∈ nw → StmsIn nw vs ss → StmIn nw (.ref a) (.made .block i l ss)
  | iff {a b c : Addr} {i n n' n2 : Nat} {l : Lab} {t1 t2 t3 t4 : Tok} {nm : Value} {vs : List Value} {ss : List Stm} : (a, tupOf #[.str (Str.ofString "if") t1, .int i t2, .none, nm, .ref c, .none] n) ∈ nw →
      (c, tupOf #[.str (Str.ofString "block") t3, .int 2 t4, .ref b] n2) ∈ nw → (b, tupOf vs.toArray n') ∈ nw → StmsIn nw vs ss → StmIn nw (.ref a) (.made .iff i l ss)
  | for {a b c : Addr} {i n n' n2 : Nat} {l : Lab} {t1 t2 t3 t4 : Tok} {lv : Value} {vs : List Value} {ss : List Stm} : (a, tupOf #[.str (Str.ofString "for") t1, .int i t2, lv, .none, .none, .none, .ref c] n) ∈ nw →
      (c, tupOf #[.str (Str.ofString "block") t3, .int 2 t4, .ref b] n2) ∈ nw → (b, tupOf vs.toArray n') ∈ nw → LabV l lv → StmsIn nw vs ss → StmIn nw (.ref a) (.made .for i l ss)
  | range {a b c : Addr} {i n n' n2 : Nat} {l : Lab} {t1 t2 t3 t4 : Tok} {lv : Value} {vs : List Value} {ss : List Stm} : (a, tupOf #[.str (Str.ofString "range") t1, .int i t2, lv, .none, .none, .none, .ref c] n) ∈ nw →
      (c, tupOf #[.str (Str.ofString "block") t3, .int 2 t4, .ref b] n2) ∈ nw → (b, tupOf vs.toArray n') ∈ nw → LabV l lv → StmsIn nw vs ss → StmIn nw (.ref a) (.made .range i l ss)
  | switch {a b c x : Addr} {i n n' n2 n3 : Nat} {l : Lab} {t1 t2 : Tok} {lv nm : Value} {vs : List Value} {ss : List Stm} : (a, tupOf #[.str (Str.ofString "switch") t1, .int i t2, lv, .none, nm, .ref c] n) ∈ nw →
      (c, tupOf #[.ref x] n2) ∈ nw → (x, tupOf #[.none, .ref b] n3) ∈ nw → (b, tupOf vs.toArray n') ∈ nw → LabV l lv → StmsIn nw vs ss → StmIn nw (.ref a) (.made .switch i l ss)
  | typeswitch {a b c x : Addr} {i n n' n2 n3 : Nat} {l : Lab} {t1 t2 : Tok} {lv nm : Value} {vs : List Value} {ss : List Stm} : (a, tupOf #[.str (Str.ofString "typeswitch") t1, .int i t2, lv, .none, .none, nm, .ref c] n) ∈ nw →
      (c, tupOf #[.ref x] n2) ∈ nw → (x, tupOf #[.none, .ref b] n3) ∈ nw → (b, tupOf vs.toArray n') ∈ nw → LabV l lv → StmsIn nw vs ss → StmIn nw (.ref a) (.made .typeswitch i l ss)
  | choose {a b c x : Addr} {i n n' n2 n3 : Nat} {l : Lab} {t1 t2 : Tok} {lv : Value} {vs : List Value} {ss : List Stm} : (a, tupOf #[.str (Str.ofString "choose") t1, .int i t2, lv, .ref c] n) ∈ nw →
      (c, tupOf #[.ref x] n2) ∈ nw → (x, tupOf #[.none, .ref b] n3) ∈ nw → (b, tupOf vs.toArray n') ∈ nw → LabV l lv → StmsIn nw vs ss → StmIn nw (.ref a) (.made .choose i l ss)
inductive StmsIn (nw : Ledger) : List Value → List Stm → Prop
  | nil : StmsIn nw [] []
  | cons {v : Value} {s : Stm} {vs : List Value} {ss : List Stm} : StmIn nw v s → StmsIn nw vs ss → StmsIn nw (v :: vs) (s :: ss)
end

theorem StmIn.mono' {nw nw' : Ledger} (hs : ∀ a vs n, (a, tupOf vs n) ∈ nw → (a, tupOf vs n) ∈ nw') {v : Value} {s : Stm} (h : StmIn nw v s) : StmIn nw' v s :=
  StmIn.rec (motive_1 := fun v s _ => StmIn nw' v s) (motive_2 := fun vs ss _ => StmsIn nw' vs ss)
    (fun h l => .lead (hs _ _ _ h) l) (fun h1 h2 _ h => .block (hs _ _ _ h1) (hs _ _ _ h2) h) (fun h1 h2 h3 _ h => .iff (hs _ _ _ h1) (hs _ _ _ h2) (hs _ _ _ h3) h) (fun h1 h2 h3 l _ h => .for (hs _ _ _ h1) (hs _ _ _ h2) (hs _ _ _ h3) l h) (fun h1 h2 h3 l _ h => .range (hs _ _ _ h1) (hs _ _ _ h2) (hs _ _ _ h3) l h)
    (fun h1 h2 h3 h4 l _ h => .switch (hs _ _ _ h1) (hs _ _ _ h2) (hs _ _ _ h3) (hs _ _ _ h4) l h) (fun h1 h2 h3 h4 l _ h => .typeswitch (hs _ _ _ h1) (hs _ _ _ h2) (hs _ _ _ h3) (hs _ _ _ h4) l h) (fun h1 h2 h3 h4 l _ h => .choose (hs _ _ _ h1) (hs _ _ _ h2) (hs _ _ _ h3) (hs _ _ _ h4) l h)
    .nil (fun _ _ h t => .cons h t) h
theorem StmsIn.mono' {nw nw' : Ledger} (hs : ∀ a vs n, (a, tupOf vs n) ∈ nw → (a, tupOf vs n) ∈ nw') {vs : List Value} {ss : List Stm} (h : StmsIn nw vs ss) : StmsIn nw' vs ss :=
  StmsIn.rec (motive_1 := fun v s _ => StmIn nw' v s) (motive_2 := fun vs ss _ => StmsIn nw' vs ss)
    (fun h l => .lead (hs _ _ _ h) l) (fun h1 h2 _ h => .block (hs _ _ _ h1) (hs _ _ _ h2) h) (fun h1 h2 h3 _ h => .iff (hs _ _ _ h1) (hs _ _ _ h2) (hs _ _ _ h3) h) (fun h1 h2 h3 l _ h => .for (hs _ _ _ h1) (hs _ _ _ h2) (hs _ _ _ h3) l h) (fun h1 h2 h3 l _ h => .range (hs _ _ _ h1) (hs _ _ _ h2) (hs _ _ _ h3) l h)
    (fun h1 h2 h3 h4 l _ h => .switch (hs _ _ _ h1) (hs _ _ _ h2) (hs _ _ _ h3) (hs _ _ _ h4) l h) (fun h1 h2 h3 h4 l _ h => .typeswitch (hs _ _ _ h1) (hs _ _ _ h2) (hs _ _ _ h3) (hs _ _ _ h4) l h) (fun h1 h2 h3 h4 l _ h => .choose (hs _ _ _ h1) (hs _ _ _ h2) (hs _ _ _ h3) (hs _ _ _ h4) l h)
    .nil (fun _ _ h t => .cons h t) h
theorem StmIn.mono {nw nw' : Ledger} (hs : ∀ p ∈ nw, p ∈ nw') {v : Value} {s : Stm} (h : StmIn nw v s) : StmIn nw' v s := h.mono' fun _ _ _ => hs _
theorem StmsIn.mono {nw nw' : Ledger} (hs : ∀ p ∈ nw, p ∈ nw') {vs : List Value} {ss : List Stm} (h : StmsIn nw vs ss) : StmsIn nw' vs ss := h.mono' fun _ _ _ => hs _
theorem StmsIn.append {nw : Ledger} : ∀ {vs ws : List Value} {ss ts : List Stm}, StmsIn nw vs ss → StmsIn nw ws ts → StmsIn nw (vs ++ ws) (ss ++ ts)
  | _, _, _, _, .nil, h => h
  | _, _, _, _, .cons h t, h' => .cons h (t.append h')
theorem StmsIn.length {nw : Ledger} : ∀ {vs : List Value} {ss : List Stm}, StmsIn nw vs ss → vs.length = ss.length
  | _, _, .nil => rfl
  | _, _, .cons _ t => by simp [t.length]

/-- how the ledger bears a step -/
inductive StepIn (nw : Ledger) : Value → Step → Prop
  | beg {a : Addr} {k : Kd} {l : Lab} {lv : Value} {n : Nat} {t1 t2 : Tok} : (a, tupOf #[.str (Str.ofString "begin") t1, .str k.word t2, lv] n) ∈ nw → LabV l lv → StepIn nw (.ref a) (.beg k l)
  | fin {a : Addr} {n : Nat} {t1 : Tok} : (a, tupOf #[.str (Str.ofString "end") t1] n) ∈ nw → StepIn nw (.ref a) .fin
  | lead {a : Addr} {brk : Bool} {l : Lab} {lv : Value} {n : Nat} {t1 t2 : Tok} : (a, tupOf #[.str (Str.ofString "lead") t1, .str (leadWord brk) t2, lv] n) ∈ nw → LabV l lv → StepIn nw (.ref a) (.lead brk l)
theorem StepIn.mono {nw nw' : Ledger} {v : Value} {s : Step} (h : StepIn nw v s) (hs : ∀ p ∈ nw, p ∈ nw') : StepIn nw' v s := by
  cases h with
  | beg h l => exact .beg (hs _ h) l
  | fin h => exact .fin (hs _ h)
  | lead h l => exact .lead (hs _ h) l
noncomputable def StepsIn (nw : Ledger) (vs : List Value) (ss : List Step) : Prop := vs.length = ss.length ∧ ∀ (i : Nat) (v : Value) (s : Step), vs[i]? = some v → ss[i]? = some s → StepIn nw v s
theorem StepsIn.mono {nw nw' : Ledger} {vs : List Value} {ss : List Step} (h : StepsIn nw vs ss) (hs : ∀ p ∈ nw, p ∈ nw') : StepsIn nw' vs ss := ⟨h.1, fun i v s a b => (h.2 i v s a b).mono hs⟩
theorem tup_L {prog : Program} {w : World} {A : Around} {E : Value → Shared → Prop} {h : Heap} {g : Array GenState} {d : Drawn} {tk : Nat} {o : OsState} {h₀ : Heap} {L l : Addr} {m : Str → Option Value} {news : Ledger} {vs : List Value} {n : Nat} {Q : Value → Shared → Prop} (F : Fr h₀ L h m) (N : News h₀ L h news)
    (hm : (l, listOf vs.toArray n) ∈ news) (hz : vs.length ≤ 1000)
    (hq : ∀ D, let n9 : Ledger := (D, tupOf vs.toArray 0) :: news; ∀ h', Fr h₀ L h' m → News h₀ L h' n9 → (∀ p ∈ news, @LT.lt Nat _ p.1 D) → Q (.ref D) ⟨h', g, d, tk, o⟩) : wpAny (model prog w) A (call (.type "tuple") [.ref l]) Q E ⟨h, g, d, tk, o⟩ :=
  kde_tupleOf (s := ⟨h, g, d, tk, o⟩) F N ⟨_, (N _ hm).1, rfl, n, rfl⟩ (by rw [List.size_toArray]; omega) (by simp) hq

local macro_rules | `(tactic| walk_at "call type:tuple") => `(tactic| (k_here; (with_reducible show wpAny _ _ (call (Value.type _) [Value.ref _]) _ _ _); k_dflt (refine' tup_L ?k1 ?k2 ?k3 ?k4 ?_; (case k1 => k_asm); (case k2 => k_asm); (case k3 => lge_bears); (case k4 => (first | assumption | omega)); k_whole); intro D' n9 h' F' N' l1; (try k_sweep)))
local macro_rules | `(tactic| k_all) => `(tactic| first | ((with_reducible refine all_app ?a9 ?b9); (case a9 => k_all); (case b9 => k_all)) | exact fresh_ne (by assumption) (by lge_bears))
theorem fresh_Made : True := by
  w_top off
  exact trivial
/-- `n'` is `tl` laid upon `news`, each cell above all beneath it -/
inductive Lays (news : Ledger) : Ledger → Ledger → Prop
  | nil : Lays news [] news
  | cons {D : Addr} {o : Obj} {tl n' : Ledger} : (∀ p ∈ n', @LT.lt Nat _ p.1 D) → Lays news tl n' → Lays news ((D, o) :: tl) ((D, o) :: n')
theorem Lays.eq {news tl n' : Ledger} (h : Lays news tl n') : n' = tl ++ news := by
  induction h with
  | nil => rfl
  | cons _ _ ih => rw [ih]; rfl
theorem Lays.above {news tl n' : Ledger} (h : Lays news tl n') : ∀ q ∈ tl, ∀ p ∈ news, p.1 < q.1 := by
  induction h with
  | nil => exact fun _ h => nomatch h
  | cons l h ih =>
    intro q hq p hp
    rcases List.mem_cons.mp hq with rfl | hq
    · exact l p (h.eq ▸ List.mem_append_right _ hp)
    · exact ih q hq p hp
theorem Lays.nodup {news tl n' : Ledger} (h : Lays news tl n') : (tl.map (·.1)).Nodup := by
  induction h with
  | nil => exact List.nodup_nil
  | cons l h ih =>
    rw [List.map_cons, List.nodup_cons]
    refine ⟨fun hm => ?_, ih⟩
    obtain ⟨p, hp, e⟩ := List.mem_map.mp hm
    exact absurd (l p (h.eq ▸ List.mem_append_left _ hp)) (by rw [e]; exact Nat.lt_irrefl _)
set_option maxRecDepth 100000 in
set_option maxHeartbeats 0 in
theorem made {w : World} {sa lb : Addr} {k : Kd} {l : Lab} {lv : Value} {i n nb : Nat} {t1 t2 t3 : Tok} {vs : List Value} {ss : List Stm} {news imm : Ledger} (hl : LabV l lv) (hs : (sa, tupOf #[.str (Str.ofString "begin") t1, .str k.word t2, lv] n) ∈ news)
    (hb : (lb, listOf vs.toArray nb) ∈ news) (hv : StmsIn imm vs ss) (hz : vs.length ≤ 40) :
    Con w 143 2 20 [.ref sa, .int i t3, .ref lb] news
      (fun K => ∀ r tl n', Lays news tl n' → StmIn (tl ++ imm) r (.made k i l ss) → K r n') := by
  replace hz : vs.length ≤ 1000 := Nat.le_trans hz (by decide)
  refine' con_enter ?ho ?hcd ?hb ?hl ?hf ?_
  case ho => k_is
  case hcd => k_is
  case hb => exact fun _ => BindsTo.of_eq rfl
  case hl => exact rfl
  case hf => exact rfl
  intro p loose mean mg mb dp u gd outer A base g L h g9 d9 tk o9 K Q B X T hd hu hR hq e9 a9 m9 F N
  k_steps
  all_goals
    cases k <;> first
      | contradiction
      | (refine hq _ _ _ _ _ (by assumption) (by assumption) (hR _ _ _ (by repeat (first | exact Lays.nil | (with_reducible apply Lays.cons; assumption))) ?_)
         first
          | ((with_reducible show StmIn _ _ (Stm.made Kd.block _ _ _)); exact StmIn.block (by k_mem) (by k_mem) (StmsIn.mono (fun p hp => List.mem_append_right _ hp) hv))
          | ((with_reducible show StmIn _ _ (Stm.made Kd.iff _ _ _)); exact StmIn.iff (by k_mem) (by k_mem) (by k_mem) (StmsIn.mono (fun p hp => List.mem_append_right _ hp) hv))
          | ((with_reducible show StmIn _ _ (Stm.made Kd.for _ _ _)); exact StmIn.for (by k_mem) (by k_mem) (by k_mem) hl (StmsIn.mono (fun p hp => List.mem_append_right _ hp) hv))
          | ((with_reducible show StmIn _ _ (Stm.made Kd.range _ _ _)); exact StmIn.range (by k_mem) (by k_mem) (by k_mem) hl (StmsIn.mono (fun p hp => List.mem_append_right _ hp) hv))
          | ((with_reducible show StmIn _ _ (Stm.made Kd.switch _ _ _)); exact StmIn.switch (by k_mem) (by k_mem) (by k_mem) (by k_mem) hl (StmsIn.mono (fun p hp => List.mem_append_right _ hp) hv))
          | ((with_reducible show StmIn _ _ (Stm.made Kd.typeswitch _ _ _)); exact StmIn.typeswitch (by k_mem) (by k_mem) (by k_mem) (by k_mem) hl (StmsIn.mono (fun p hp => List.mem_append_right _ hp) hv))
          | ((with_reducible show StmIn _ _ (Stm.made Kd.choose _ _ _)); exact StmIn.choose (by k_mem) (by k_mem) (by k_mem) (by k_mem) hl (StmsIn.mono (fun p hp => List.mem_append_right _ hp) hv)))
theorem made_use {w : World} {sa lb : Addr} {k : Kd} {l : Lab} {lv : Value} {i n nb : Nat} {t1 t2 t3 : Tok} {vs : List Value} {ss : List Stm} {news imm : Ledger} {gf : Ledger → Ledger} (hl : LabV l lv) (hs : (sa, tupOf #[.str (Str.ofString "begin") t1, .str k.word t2, lv] n) ∈ news)
    (hb : (lb, listOf vs.toArray nb) ∈ news) (hv : StmsIn imm vs ss) (hz : vs.length ≤ 40) (G : GrowF news gf) :
    Con w 143 2 20 [.ref sa, .int i t3, .ref lb] news (fun K => ∀ r tl, (∀ q ∈ tl, ∀ p ∈ news, p.1 < q.1) → (tl.map (·.1)).Nodup → StmIn (tl ++ imm) r (.made k i l ss) → K r (gf tl)) :=
  Con.grow (P := fun K => ∀ (r : Value) (tl : Ledger), (∀ q ∈ tl, ∀ p ∈ news, p.1 < q.1) → (tl.map (·.1)).Nodup → StmIn (tl ++ imm) r (.made k i l ss) → K r tl) (fun _ _ h k a b c d e => h _ _ (k a b c d e)) G
    ((made hl hs hb hv hz).mono fun _ h r tl _ q s => q.eq ▸ h r tl q.above q.nodup s)

local macro_rules | `(tactic| ktr_unf) => `(tactic| ((repeat (apply GrowF.cons)); exact GrowF.here))
local macro_rules | `(tactic| walk_at "call ref") => `(tactic| (k_here; (with_reducible show wpAny _ _ (call (Value.ref 143) _ _) _ _ _); k_dflt (refine Con.use (by k_asm) (by k_asm) (by k_asm) rfl (by lgec_go) (by lgec_go) (by k_asm) (by k_asm) (made_use (by assumption) (by lge_bears) (by lge_bears) (by assumption) (by first | assumption | omega) (by ktr_unf)) ?_); intro r' tl' hf' hn' hP' n9 h' tk' F' N'))
theorem fresh_St1 : True := by
  w_top off
  exact trivial
inductive BegunIn (nw : Ledger) : List Value → Begun → Prop
  | nil : BegunIn nw [] []
  | push {xs : List Value} {bg : Begun} {f st : Addr} {k : Kd} {l : Lab} {lv : Value} {j n n' : Nat} {t t1 t2 : Tok} : BegunIn nw xs bg → (f, tupOf #[.ref st, .int j t] n) ∈ nw → (st, tupOf #[.str (Str.ofString "begin") t1, .str k.word t2, lv] n') ∈ nw → LabV l lv →
      BegunIn nw (xs ++ [.ref f]) ((k, l, j) :: bg)
inductive BodiesIn (nw : Ledger) : List Value → Ledger → List (List Stm) → Prop
  | nil : BodiesIn nw [] [] []
  | push {xs vs : List Value} {led : Ledger} {bs : List (List Stm)} {b : List Stm} {a : Addr} {e : Nat} : BodiesIn nw xs led bs → StmsIn nw vs b → BodiesIn nw (xs ++ [.ref a]) ((a, listOf vs.toArray e) :: led) (b :: bs)
theorem BegunIn.mono {nw nw' : Ledger} (hs : ∀ p ∈ nw, p ∈ nw') {xs : List Value} {bg : Begun} (h : BegunIn nw xs bg) : BegunIn nw' xs bg := by
  induction h with
  | nil => exact .nil
  | push _ a b c ih => exact .push ih (hs _ a) (hs _ b) c
theorem BodiesIn.mono {nw nw' : Ledger} (hs : ∀ p ∈ nw, p ∈ nw') {xs : List Value} {led : Ledger} {bs : List (List Stm)} (h : BodiesIn nw xs led bs) : BodiesIn nw' xs led bs := by
  induction h with
  | nil => exact .nil
  | push _ a ih => exact .push ih (a.mono hs)
theorem BegunIn.length {nw : Ledger} {xs : List Value} {bg : Begun} (h : BegunIn nw xs bg) : xs.length = bg.length := by
  induction h with
  | nil => rfl
  | push _ _ _ _ ih => simp [ih]
theorem BodiesIn.length {nw : Ledger} {xs : List Value} {led : Ledger} {bs : List (List Stm)} (h : BodiesIn nw xs led bs) : xs.length = bs.length ∧ led.length = bs.length := by
  induction h with
  | nil => exact ⟨rfl, rfl⟩
  | push _ _ ih => simp [ih.1, ih.2]

/-- the objects of `front` are no two alike and lie above the ledger `news` -/
noncomputable def Sep (front : List Addr) (news : Ledger) : Prop := front.Nodup ∧ ∀ a ∈ front, ∀ p ∈ news, @LT.lt Nat _ p.1 a

/-- the two stacks in the ledger -/
inductive StOK (news : Ledger) (bgA bdA : Addr) (x : Begun × List (List Stm)) : Ledger → Prop
  | mk (xb : List Value) (e1 : Nat) (xs : List Value) (e2 : Nat) (led tl : Ledger) (hB : BegunIn (tl ++ news) xb x.1) (hD : BodiesIn (tl ++ news) xs led x.2) (hS : Sep (bgA :: bdA :: (led ++ tl).map (·.1)) news) :
      StOK news bgA bdA x ((bgA, listOf xb.toArray e1) :: (bdA, listOf xs.toArray e2) :: (led ++ (tl ++ news)))

/-- how many a body holds at the most -/
noncomputable def Small (n : Nat) (x : Begun × List (List Stm)) : Prop := x.1.length ≤ n ∧ x.2.length ≤ n + 1 ∧ ∀ b ∈ x.2, b.length ≤ n
theorem small_push (i n : Nat) (s : Step) (x : Begun × List (List Stm)) (h : Small n x) : Small (n + 1) (stPush i s x) := by
  obtain ⟨bg, bs⟩ := x
  obtain ⟨h1, h2, h3⟩ := h
  replace h1 : bg.length ≤ n := h1
  replace h2 : bs.length ≤ n + 1 := h2
  replace h3 : ∀ b ∈ bs, b.length ≤ n := h3
  cases s with
  | beg k l =>
    refine ⟨by simp only [stPush, List.length_cons]; omega, by simp only [stPush, List.length_cons]; omega, ?_⟩
    intro b hb
    rcases List.mem_cons.mp hb with rfl | hb
    · simp
    · have := h3 b hb; omega
  | fin =>
    cases bg with
    | nil => exact ⟨by simp [stPush], by simp only [stPush]; omega, fun b hb => by have := h3 b hb; omega⟩
    | cons y bg =>
      obtain ⟨k, l, j⟩ := y
      cases bs with
      | nil => exact ⟨by simp only [stPush]; simp only [List.length_cons] at h1 ⊢; omega, by simp [stPush], fun b hb => by simp [stPush] at hb⟩
      | cons b bs =>
        cases bs with
        | nil => exact ⟨by simp only [stPush]; simp only [List.length_cons] at h1 ⊢; omega, by simp only [stPush]; simp only [List.length_cons] at h2 ⊢; omega, fun b hb => by have := h3 b hb; omega⟩
        | cons c bs =>
          refine ⟨by simp only [stPush]; simp only [List.length_cons] at h1; omega, by simp only [stPush]; simp only [List.length_cons] at h2 ⊢; omega, ?_⟩
          intro b' hb
          rcases List.mem_cons.mp hb with rfl | hb
          · have := h3 c (by simp); simp; omega
          · have := h3 b' (by simp [hb]); omega
  | lead brk l =>
    cases bs with
    | nil => exact ⟨by simp only [stPush]; omega, by simp [stPush], fun b hb => by simp [stPush] at hb⟩
    | cons b bs =>
      refine ⟨by simp only [stPush]; omega, by simp only [stPush]; simp only [List.length_cons] at h2 ⊢; omega, ?_⟩
      intro b' hb
      rcases List.mem_cons.mp hb with rfl | hb
      · have := h3 b (by simp); simp; omega
      · have := h3 b' (by simp [hb]); omega
theorem stGo_take (steps : List Step) : ∀ (i j : Nat) (s : Step) (x : Begun × List (List Stm)), steps[j]? = some s → stGo i (steps.take (j + 1)) x = stPush (i + j) s (stGo i (steps.take j) x) := by
  induction steps with
  | nil => intro i j s x h; simp at h
  | cons a r ih =>
    intro i j s x h
    cases j with
    | zero => simp at h; subst h; simp [stGo]
    | succ j =>
      simp only [List.getElem?_cons_succ] at h
      simp only [List.take_succ_cons, stGo]
      rw [ih (i + 1) j s _ h]
      congr 1
      omega
theorem small_go (steps : List Step) (j : Nat) : Small j (stGo 0 (steps.take j) ([], [[]])) := by
  induction j with
  | zero => simp [stGo, Small]
  | succ j ih =>
    cases h : steps[j]? with
    | none =>
      have e : steps.take (j + 1) = steps.take j := by
        have : steps.length ≤ j := by simpa using h
        rw [List.take_of_length_le this, List.take_of_length_le (by omega)]
      rw [e]
      obtain ⟨a, b, c⟩ := ih
      exact ⟨by omega, by omega, fun x hx => by have := c x hx; omega⟩
    | some s =>
      rw [stGo_take steps 0 j s _ h]
      exact small_push _ _ _ _ ih
theorem Sep.off {bg bd : Addr} {led tl news : Ledger} (h : Sep (bg :: bd :: (led ++ tl).map (·.1)) news) : @Ne Nat bg bd ∧ (∀ p ∈ led ++ (tl ++ news), p.1 ≠ bg) ∧ (∀ p ∈ led ++ (tl ++ news), p.1 ≠ bd) := by
  obtain ⟨h1, h2⟩ := h
  simp only [List.nodup_cons, List.mem_cons, not_or] at h1
  obtain ⟨⟨a, b⟩, c, _⟩ := h1
  have key : ∀ x : Addr, x ∉ (led ++ tl).map (·.1) → (∀ p ∈ news, @LT.lt Nat _ p.1 x) → ∀ p ∈ led ++ (tl ++ news), p.1 ≠ x := by
    intro x hx hn p hp e
    rw [← List.append_assoc] at hp
    rcases List.mem_append.mp hp with hp | hp
    · exact hx (e ▸ List.mem_map_of_mem hp)
    · exact absurd (hn p hp) (by rw [e]; exact Nat.lt_irrefl _)
  exact ⟨a, key _ b (h2 _ (by simp)), key _ c (h2 _ (by simp))⟩
/-- the front may be laid in another order, and more may lie upon it -/
theorem Sep.of {front front' : List Addr} {news : Ledger} (h : Sep front news) (p : front'.Perm front) : Sep front' news := ⟨p.nodup_iff.mpr h.1, fun a ha => h.2 a (p.mem_iff.mp ha)⟩
theorem Sep.cons {front : List Addr} {news : Ledger} {a : Addr} (h : Sep front news) (h1 : ∀ b ∈ front, @LT.lt Nat _ b a) (h2 : ∀ p ∈ news, @LT.lt Nat _ p.1 a) : Sep (a :: front) news :=
  ⟨List.nodup_cons.mpr ⟨fun hm => Nat.lt_irrefl _ (h1 a hm), h.1⟩, fun b hb => by
    rcases List.mem_cons.mp hb with rfl | hb
    · exact h2
    · exact h.2 b hb⟩
theorem rot2 {α : Type} (x y z : α) (l : List α) : (x :: y :: z :: l).Perm (z :: x :: y :: l) := ((List.Perm.swap z y l).cons x).trans (List.Perm.swap z x (y :: l))
theorem perm_mid {α : Type} (a c b : List α) : (a ++ (c ++ b)).Perm (c ++ (a ++ b)) := by
  rw [← List.append_assoc, ← List.append_assoc]
  exact List.perm_append_comm.append_right b
theorem perm_beg (bg bd x y : Addr) (a b : List Addr) : (bg :: bd :: ((x :: a) ++ (y :: b))).Perm (x :: y :: bg :: bd :: (a ++ b)) := (rot2 bg bd x (a ++ y :: b)).trans ((perm_mid (bg :: bd :: a) [y] b).cons x)
theorem perm_tl (bg bd : Addr) (a b c : List Addr) : (bg :: bd :: (a ++ (c ++ b))).Perm (c ++ (bg :: bd :: (a ++ b))) := perm_mid (bg :: bd :: a) c b
theorem Sep.led {bg bd : Addr} {led tl news : Ledger} (h : Sep (bg :: bd :: (led ++ tl).map (·.1)) news) {n : Addr} (h1 : @LT.lt Nat _ bg n) (h2 : @LT.lt Nat _ bd n) (h3 : ∀ p ∈ led ++ (tl ++ news), @LT.lt Nat _ p.1 n) : Sep (n :: bg :: bd :: (led ++ tl).map (·.1)) news :=
  h.cons (fun b hb => by
    rcases List.mem_cons.mp hb with rfl | hb
    · exact h1
    · rcases List.mem_cons.mp hb with rfl | hb
      · exact h2
      · obtain ⟨p, hp, rfl⟩ := List.mem_map.mp hb
        exact h3 p (by rw [← List.append_assoc]; exact List.mem_append_left _ hp)) fun p hp => h3 p (List.mem_append_right _ (List.mem_append_right _ hp))
theorem wf_at (steps : List Step) (hf : Fine 0 steps) : ∀ i, i ≤ steps.length → WfSt (stGo 0 (steps.take i) ([], [[]])).1 (stGo 0 (steps.take i) ([], [[]])).2 ∧ Fine (stGo 0 (steps.take i) ([], [[]])).1.length (steps.drop i) ∧
    flatSt (stGo 0 (steps.take i) ([], [[]])).1 (stGo 0 (steps.take i) ([], [[]])).2 = steps.take i := by
  intro i
  induction i with
  | zero => exact fun _ => ⟨trivial, hf, rfl⟩
  | succ i ih =>
    intro hi
    obtain ⟨a, b, c⟩ := ih (by omega)
    have hs : steps[i]? = some (steps[i]'(by omega)) := List.getElem?_eq_getElem _
    rw [stGo_take steps 0 i _ _ hs, Nat.zero_add]
    have hd : steps.drop i = steps[i]'(by omega) :: steps.drop (i + 1) := List.drop_eq_getElem_cons (by omega)
    rw [hd] at b
    have hl : i = (flatSt (stGo 0 (steps.take i) ([], [[]])).1 (stGo 0 (steps.take i) ([], [[]])).2).length := by rw [c, List.length_take]; omega
    have k := push_wf _ _ _ a _ b
    rw [← hl] at k
    refine ⟨k.1, k.2.2, ?_⟩
    rw [k.2.1, c, List.take_add_one, hs]
    rfl
theorem Sep.top {bg bd a : Addr} {o : Obj} {led tl news : Ledger} (h : Sep (bg :: bd :: (((a, o) :: led) ++ tl).map (·.1)) news) : ∀ p ∈ led ++ (tl ++ news), p.1 ≠ a := by
  have h' : Sep (a :: bg :: bd :: (led ++ tl).map (·.1)) news := h.of (rot2 bg bd a _).symm
  obtain ⟨h1, h2⟩ := h'
  intro p hp e
  rw [← List.append_assoc] at hp
  rcases List.mem_append.mp hp with hp | hp
  · simp only [List.nodup_cons, List.mem_cons, not_or] at h1
    exact h1.1.2.2 (e ▸ List.mem_map_of_mem hp)
  · exact absurd (h2 a (by simp) p hp) (by rw [e]; exact Nat.lt_irrefl _)
theorem Sep.top2 {bg bd a : Addr} {o : Obj} {q : Addr × Obj} {led tl news : Ledger} (h : Sep (bg :: bd :: (((a, o) :: led) ++ (q :: tl)).map (·.1)) news) : ∀ p ∈ led ++ (tl ++ news), p.1 ≠ a := fun p hp => h.top p (by
  rcases List.mem_append.mp hp with h1 | h1
  · exact List.mem_append_left _ h1
  · exact List.mem_append_right _ (List.mem_cons_of_mem _ h1))
theorem Sep.addl {front : List Addr} {news tl9 : Ledger} (h : Sep front news) (h1 : ∀ q ∈ tl9, ∀ a ∈ front, @LT.lt Nat _ a q.1) (h2 : ∀ q ∈ tl9, ∀ p ∈ news, @LT.lt Nat _ p.1 q.1) (hn : (tl9.map (·.1)).Nodup) : Sep (tl9.map (·.1) ++ front) news := by
  refine ⟨List.nodup_append.mpr ⟨hn, h.1, fun a ha b hb e => ?_⟩, fun a ha p hp => ?_⟩
  · obtain ⟨q, hq, rfl⟩ := List.mem_map.mp ha
    exact absurd (h1 q hq b hb) (by rw [e]; exact Nat.lt_irrefl _)
  · rcases List.mem_append.mp ha with ha | ha
    · obtain ⟨q, hq, rfl⟩ := List.mem_map.mp ha
      exact h2 q hq p hp
    · exact h.2 a ha p hp
theorem Sep.sub {a : Addr} {front : List Addr} {news : Ledger} (h : Sep (a :: front) news) : Sep front news := ⟨(List.nodup_cons.mp h.1).2, fun b hb => h.2 b (List.mem_cons_of_mem _ hb)⟩
theorem Sep.two {bg bd x y : Addr} {o o' : Obj} {led tl news : Ledger} (h : Sep (bg :: bd :: (((x, o) :: (y, o') :: led) ++ tl).map (·.1)) news) : ∀ p ∈ led ++ (tl ++ news), p.1 ≠ y :=
  (h.of (front' := bg :: bd :: (((y, o') :: led) ++ ((x, o) :: tl)).map (·.1)) (by
    simp only [List.cons_append, List.map_cons, List.map_append]
    exact (perm_mid (bg :: bd :: y :: _) [x] _).trans (rot2 bg bd x _).symm)).top2
theorem Sep.fin {bg bd x y : Addr} {o o' o1 o2 o3 : Obj} {led tl tl9 news : Ledger} (h : Sep (bg :: bd :: (((x, o) :: (y, o') :: led) ++ tl).map (·.1)) news) (h9 : ∀ q ∈ tl9, ∀ p ∈ (bg, o1) :: (bd, o2) :: (x, o) :: (y, o') :: (led ++ (tl ++ news)), @LT.lt Nat _ p.1 q.1) (hn : (tl9.map (·.1)).Nodup) :
    Sep (bg :: bd :: (((y, o3) :: led) ++ (tl9 ++ tl)).map (·.1)) news := by
  have h0 : Sep (bg :: bd :: (((y, o') :: led) ++ tl).map (·.1)) news := (h.of (front' := x :: (bg :: bd :: (((y, o') :: led) ++ tl).map (·.1))) (rot2 bg bd x _).symm).sub
  have h1 := h0.addl (tl9 := tl9) (fun q hq a ha => by
    simp only [List.mem_cons, List.cons_append, List.map_cons] at ha
    rcases ha with rfl | rfl | rfl | ha
    · exact h9 q hq _ List.mem_cons_self
    · exact h9 q hq _ (List.mem_cons_of_mem _ List.mem_cons_self)
    · exact h9 q hq (_, o') (List.mem_cons_of_mem _ (List.mem_cons_of_mem _ (List.mem_cons_of_mem _ List.mem_cons_self)))
    · obtain ⟨p, hp, rfl⟩ := List.mem_map.mp ha
      refine h9 q hq p (List.mem_cons_of_mem _ (List.mem_cons_of_mem _ (List.mem_cons_of_mem _ (List.mem_cons_of_mem _ ?_))))
      rcases List.mem_append.mp hp with hp | hp
      · exact List.mem_append_left _ hp
      · exact List.mem_append_right _ (List.mem_append_left _ hp)) (fun q hq p hp => h9 q hq p (by simp [hp])) hn
  refine h1.of ?_
  simp only [List.map_append]
  exact perm_tl bg bd (y :: _) _ _
theorem Sep.beg {bg bd fa nb : Addr} {o o' o1 o2 o3 o4 : Obj} {led tl news : Ledger} (h : Sep (bg :: bd :: (led ++ tl).map (·.1)) news) (l5 : ∀ p ∈ (bg, o1) :: (bd, o2) :: (led ++ (tl ++ news)), @LT.lt Nat _ p.1 fa)
    (l6 : ∀ p ∈ (fa, o') :: (bg, o3) :: (bd, o4) :: (led ++ (tl ++ news)), @LT.lt Nat _ p.1 nb) : Sep (bg :: bd :: (((nb, o) :: led) ++ ((fa, o') :: tl)).map (·.1)) news := by
  have h1 : Sep (nb :: fa :: bg :: bd :: (led ++ tl).map (·.1)) news := by
    refine (h.led (n := fa) (l5 _ List.mem_cons_self) (l5 _ (List.mem_cons_of_mem _ List.mem_cons_self)) fun p hp => l5 p (List.mem_cons_of_mem _ (List.mem_cons_of_mem _ hp))).cons (fun b hb => ?_) fun p hp => l6 p (by simp [hp])
    simp only [List.mem_cons] at hb
    rcases hb with rfl | rfl | rfl | hb
    · exact l6 _ List.mem_cons_self
    · exact l6 _ (List.mem_cons_of_mem _ List.mem_cons_self)
    · exact l6 _ (List.mem_cons_of_mem _ (List.mem_cons_of_mem _ List.mem_cons_self))
    · obtain ⟨p, hp, rfl⟩ := List.mem_map.mp hb
      refine l6 p (List.mem_cons_of_mem _ (List.mem_cons_of_mem _ (List.mem_cons_of_mem _ ?_)))
      rcases List.mem_append.mp hp with hp | hp
      · exact List.mem_append_left _ hp
      · exact List.mem_append_right _ (List.mem_append_left _ hp)
  refine h1.of ?_
  simp only [List.map_append, List.map_cons]
  exact perm_beg _ _ _ _ _ _
theorem Sep.lead {bg bd ba D : Addr} {o o' o1 o2 o3 : Obj} {led tl news : Ledger} (h : Sep (bg :: bd :: (((ba, o) :: led) ++ tl).map (·.1)) news) (l5 : ∀ p ∈ (bg, o1) :: (bd, o2) :: (ba, o) :: (led ++ (tl ++ news)), @LT.lt Nat _ p.1 D) :
    Sep (bg :: bd :: (((ba, o') :: led) ++ ((D, o3) :: tl)).map (·.1)) news := by
  refine (h.led (n := D) (l5 _ List.mem_cons_self) (l5 _ (List.mem_cons_of_mem _ List.mem_cons_self)) fun p hp => l5 p (List.mem_cons_of_mem _ (List.mem_cons_of_mem _ hp))).of ?_
  simp only [List.map_append]
  exact perm_tl bg bd (ba :: _) _ [D]
theorem small_b {nw : Ledger} {xb : List Value} {x : Begun × List (List Stm)} {n k : Nat} (h : BegunIn nw xb x.1) (hs : Small n x) (hk : n ≤ k) : xb.length ≤ k := by rw [h.length]; exact Nat.le_trans hs.1 hk
theorem small_d {nw : Ledger} {xs : List Value} {led : Ledger} {x : Begun × List (List Stm)} {n k : Nat} (h : BodiesIn nw xs led x.2) (hs : Small n x) (hk : n ≤ k) : xs.length ≤ k + 1 := by rw [h.length.1]; exact Nat.le_trans hs.2.1 (Nat.succ_le_succ hk)
theorem small_s {nw : Ledger} {vs : List Value} {b : List Stm} {x : Begun × List (List Stm)} {n k : Nat} (h : StmsIn nw vs b) (hs : Small n x) (hb : b ∈ x.2) (hk : n ≤ k) : vs.length ≤ k := by rw [h.length]; exact Nat.le_trans (hs.2.2 b hb) hk
theorem len_snoc {xs : List Value} {v : Value} {k : Nat} (h : (xs ++ [v]).length ≤ k + 1) : xs.length ≤ k := by rw [List.length_append] at h; exact Nat.le_of_succ_le_succ h
theorem len_snoc0 {xs : List Value} {v : Value} {k : Nat} (h : (xs ++ [v]).length ≤ k) : xs.length ≤ k := by rw [List.length_append] at h; exact Nat.le_of_succ_le h
theorem small_start {x : Begun × List (List Stm)} {n : Nat} (h : Small n x) (hn : n ≤ 20) : Small (40 - x.1.length) x := by
  obtain ⟨q1, q2, q3⟩ := h
  refine ⟨by omega, by omega, fun b hb => ?_⟩
  have := q3 b hb
  omega
theorem small_pop {y : Kd × Lab × Nat} {bg : Begun} {b c : List Stm} {bs : List (List Stm)} {s : Stm} (h : Small (40 - (y :: bg, b :: c :: bs).1.length) (y :: bg, b :: c :: bs)) : Small (40 - bg.length) (bg, (c ++ [s]) :: bs) := by
  obtain ⟨z1, z2, z3⟩ := h
  simp only [List.length_cons] at z1 z2 z3
  refine ⟨?_, ?_, fun b' hb => ?_⟩
  · dsimp only; omega
  · simp only [List.length_cons]; omega
  · dsimp only at hb ⊢
    rcases List.mem_cons.mp hb with rfl | hb
    · have := z3 c (by simp)
      simp only [List.length_append, List.length_cons, List.length_nil]; omega
    · have := z3 b' (by simp [hb]); omega

theorem fresh_Stmts : True := by
  w_top off
  exact trivial
set_option maxRecDepth 100000 in
set_option maxHeartbeats 4000000 in
theorem statements {w : World} {lst : Addr} {vs : List Value} {steps : List Step} {n : Nat} {news : Ledger} (hl : (lst, listOf vs.toArray n) ∈ news) (hs : StepsIn news vs steps) (hf : Fine 0 steps) (hz : steps.length ≤ 20) :
    Con w 150 4 60 [.ref lst] news
      (fun K => ∀ a ws e tl, Sep (a :: tl.map (·.1)) news → StmsIn (tl ++ news) ws (stmtsOf steps) → K (.ref a) ((a, listOf ws.toArray e) :: (tl ++ news))) := by
  refine' con_enter ?ho ?hcd ?hb ?hl ?hf ?_
  case ho => k_is
  case hcd => k_is
  case hb => exact fun _ => BindsTo.of_eq rfl
  case hl => exact rfl
  case hf => exact rfl
  intro p loose mean mg mb dp u gd outer A base g L h g9 d9 tk o9 K Q B X T hd hu hR hq e9 a9 m9 F N
  k_steps
  rename_i bg _ _ _ _ lt1 b0 _ _ _ _ lt2 bd _ _ _ _ lt3 D _ n4 _ _ _ _ _ _ _ _ _ _ e it _ he hit l1 l2 l3 n1 n2 F1 N1
  let J : Nat → (Str → Option Value) → Ledger → Prop := fun i m nw => StOK news bg bd (stGo 0 (steps.take i) ([], [[]])) nw ∧ m (Str.ofString "begun") = some (.ref bg) ∧ m (Str.ofString "bodies") = some (.ref bd)
  have hb0 : ∀ p ∈ news, p.1 < b0 := fun p hp => lt2 p (List.mem_cons_of_mem _ hp)
  have hbd : ∀ p ∈ news, p.1 < bd := fun p hp => lt3 p (List.mem_cons_of_mem _ (List.mem_cons_of_mem _ hp))
  refine EnumAt.of (l := lst) (vs := vs) (n := n) (nw₀ := (bg, listOf #[] 0) :: (bd, listOf #[.ref b0] 0) :: ([(b0, listOf #[] 0)] ++ ([] ++ news))) (J := J) he hit n1 n2 ?_ ?_ ?_ F1 ?_ ?_ ?_ ?_ ?_ ?_
  · exact Nat.ne_of_gt l1
  · exact Nat.ne_of_lt (Nat.lt_trans l3 l1)
  · exact Nat.ne_of_lt l3
  · exact N1.perm (by k_slotset)
  · intro p hp
    have h1 : p.1 < it := l2 p ((show ∀ p ∈ ((bg, listOf #[] 0) :: (bd, listOf #[.ref b0] 0) :: ([(b0, listOf #[] 0)] ++ ([] ++ news)) : Ledger), p ∈ n4 by k_slotset) p hp)
    exact ⟨Nat.ne_of_lt (Nat.lt_trans h1 l1), Nat.ne_of_lt h1⟩
  · refine ⟨⟨[], 0, [.ref b0], 0, [(b0, listOf #[] 0)], [], .nil, .push (xs := []) .nil .nil, ?_, ?_⟩, rfl, rfl⟩
    · have h1 : b0 ≠ bg := Nat.ne_of_gt (lt2 _ List.mem_cons_self)
      have h2 : bd ≠ bg := Nat.ne_of_gt (lt3 _ (List.mem_cons_of_mem _ List.mem_cons_self))
      have h3 : bd ≠ b0 := Nat.ne_of_gt (lt3 _ List.mem_cons_self)
      simp [h3, Ne.symm h1, Ne.symm h2]
    · intro a ha p hp
      simp only [List.append_nil, List.map_cons, List.map_nil, List.mem_cons, List.not_mem_nil, or_false] at ha
      rcases ha with rfl | rfl | rfl
      · exact lt1 p hp
      · exact hbd p hp
      · exact hb0 p hp
  · rintro i m nw ⟨⟨xb, e1, xs, e2, led, tl, _⟩, _⟩
    simp only [List.mem_cons, List.mem_append]
    exact .inr (.inr (.inr (.inr hl)))
  · intro i v m₁ nw h tk T ti oe oi hv hJ hne heT hiT F₂ N₂
    refine hideG fun X9 k9 => ?_
    obtain ⟨⟨xb, e1, xs, e2, led, tl, hB, hD, hS⟩, hm1, hm2⟩ := hJ
    have hsm := small_go steps i
    have hlt : i < vs.length := (List.getElem?_eq_some_iff.mp hv).1
    obtain ⟨s₁, hs₁⟩ : ∃ s₁, steps[i]? = some s₁ := ⟨steps[i]'(by rw [← hs.1]; exact hlt), List.getElem?_eq_getElem _⟩
    have hst := hs.2 i v s₁ hv hs₁
    have hgo := stGo_take steps 0 i s₁ ([], [[]]) hs₁
    rw [Nat.zero_add] at hgo
    have hi20 : i < 20 := Nat.lt_of_lt_of_le (hs.1 ▸ hlt) hz
    have hxl : xb.length ≤ 1000 := Nat.le_trans (small_b hB hsm (Nat.le_of_lt hi20)) (by decide)
    have hxl2 : xs.length ≤ 1000 := Nat.le_trans (small_d hD hsm (Nat.le_of_lt hi20)) (by decide)
    obtain ⟨hbb, r1, r2⟩ := hS.off
    obtain ⟨a1, a2, a3⟩ := hne (bg, listOf xb.toArray e1) List.mem_cons_self
    obtain ⟨b1, b2, b3⟩ := hne (bd, listOf xs.toArray e2) (List.mem_cons_of_mem _ List.mem_cons_self)
    replace a1 := neN a1; replace a2 := neN a2; replace a3 := ltN a3
    replace b1 := neN b1; replace b2 := neN b2; replace b3 := ltN b3
    replace heT := ltN heT; replace hiT := ltN hiT
    dsimp only at a1 a2 a3 b1 b2 b3
    replace F₂ := frSet2 F₂ hm1 hm2
    clear F1 N1
    have r3 : ∀ p ∈ led ++ (tl ++ news), p.1 ≠ e ∧ p.1 ≠ it := fun p hp => ⟨(hne p (List.mem_cons_of_mem _ (List.mem_cons_of_mem _ hp))).1, (hne p (List.mem_cons_of_mem _ (List.mem_cons_of_mem _ hp))).2.1⟩
    obtain ⟨hwf, hfine, _⟩ := wf_at steps hf i (Nat.le_of_lt (hs.1 ▸ hlt))
    generalize hx : stGo 0 (steps.take i) ([], [[]]) = x at hB hD hwf hfine hsm hgo
    obtain ⟨bgs, bss⟩ := x
    dsimp only at hB hD hwf hfine
    cases hst with
    | @beg sa k l lv nn t1 t2 hmem hlab =>
      --[B
      clear hne
      refine k9 ?_
      let R : Ledger := led ++ (tl ++ news)
      have hR : _ ∈ R := List.mem_append_right _ (List.mem_append_right _ hmem)
      replace r1 : ∀ p ∈ R, p.1 ≠ bg := r1
      replace r2 : ∀ p ∈ R, p.1 ≠ bd := r2
      refine setFN (news := (T, _) :: (e, oe) :: (it, oi) :: (bg, _) :: (bd, _) :: R) F₂ N₂ ?_
      intro m3 n3 F3 N3
      clear F₂ N₂
      k_steps
      rename_i fa _ _ _ _ lt5 _ _ nb _ _ _ _ lt6 _ _ F9 N9
      have hsub : ∀ p ∈ tl ++ news, p ∈ ((fa, tupOf #[.ref sa, .int i ti] 0) :: tl) ++ news := fun p hp => List.mem_cons_of_mem _ hp
      refine TurnEnd2.of (nw := (bg, lstO (xb ++ [.ref fa]) (e1 + 1)) :: (bd, lstO (xs ++ [.ref nb]) (e2 + 1)) :: (nb, listOf #[] 0) :: (led ++ ((fa, tupOf #[.ref sa, .int i ti] 0) :: (tl ++ news)))) F9 N9 ?_ ?_ ⟨⟨xb ++ [.ref fa], e1 + 1, xs ++ [.ref nb], e2 + 1, (nb, listOf #[] 0) :: led, (fa, tupOf #[.ref sa, .int i ti] 0) :: tl, ?_, ?_, ?_⟩, rfl, rfl⟩
      · exact its2 (by k_slotset)
      · exact ends2 (allCons9 ⟨a1, a2⟩ (allCons9 ⟨b1, b2⟩ (allCons9 ⟨by dsimp only; k_ne, by dsimp only; k_ne⟩ (allMid9 r3 ⟨by dsimp only; k_ne, by dsimp only; k_ne⟩))))
      · rw [hgo]
        exact .push (hB.mono hsub) List.mem_cons_self (hsub _ (List.mem_append_right _ hmem)) hlab
      · rw [hgo]
        exact .push (vs := []) (hD.mono hsub) .nil
      · exact hS.beg (ltSub lt5 (by k_slotset)) (ltSub lt6 (by k_slotset))
      --]B
    | @fin sa nn t1 hmem =>
      --[F
      cases hD with
      | nil => exact absurd (wf_len _ _ hwf) (by simp)
      | @push xs' bvs led' bs b ba be hD' hbv =>
      cases hB with
      | nil =>
        have hd0 : steps.drop i = .fin :: steps.drop (i + 1) := by
          rw [List.drop_eq_getElem_cons (hs.1 ▸ hlt)]
          rw [List.getElem?_eq_getElem (hs.1 ▸ hlt)] at hs₁
          rw [Option.some.inj hs₁]
        rw [hd0] at hfine
        exact hfine.elim
      | @push xb' bgs' fa st k l lv j fn sn t3 t4 t5 hB' hfa hst hlab =>
      cases hD' with
      | nil => exact absurd (wf_len _ _ hwf) (by simp)
      | @push xs'' cvs led'' bs' cb ca ce hD'' hcv =>
        have hfa' : _ ∈ led'' ++ (tl ++ news) := List.mem_append_right _ hfa
        have hst' : _ ∈ led'' ++ (tl ++ news) := List.mem_append_right _ hst
        have hR : _ ∈ led'' ++ (tl ++ news) := List.mem_append_right _ (List.mem_append_right _ hmem)
        obtain ⟨c1, c2, c3⟩ := hne (ba, listOf bvs.toArray be) (by k_slotget)
        replace c1 := neN c1; replace c2 := neN c2; replace c3 := ltN c3
        dsimp only at c1 c2 c3
        obtain ⟨f1, f2, f3⟩ := hne (ca, listOf cvs.toArray ce) (by k_slotget)
        replace f1 := neN f1; replace f2 := neN f2; replace f3 := ltN f3
        dsimp only at f1 f2 f3
        have d1 : @Ne Nat ba bg := r1 (ba, listOf bvs.toArray be) (by k_slotget)
        have d2 : @Ne Nat ba bd := r2 (ba, listOf bvs.toArray be) (by k_slotget)
        have d3 : @Ne Nat ca bg := r1 (ca, listOf cvs.toArray ce) (by k_slotget)
        have d4 : @Ne Nat ca bd := r2 (ca, listOf cvs.toArray ce) (by k_slotget)
        have d5 : @Ne Nat ca ba := hS.top (ca, listOf cvs.toArray ce) (by k_slotget)
        have r1' : ∀ p ∈ led'' ++ (tl ++ news), p.1 ≠ bg := fun p hp => r1 p (List.mem_cons_of_mem _ (List.mem_cons_of_mem _ hp))
        have r2' : ∀ p ∈ led'' ++ (tl ++ news), p.1 ≠ bd := fun p hp => r2 p (List.mem_cons_of_mem _ (List.mem_cons_of_mem _ hp))
        have r4 : ∀ p ∈ led'' ++ (tl ++ news), p.1 ≠ ca := hS.two
        have hbl : bvs.length ≤ 40 := Nat.le_trans (small_s hbv hsm List.mem_cons_self (Nat.le_of_lt hi20)) (by decide)
        have hcl : cvs.length ≤ 1000 := Nat.le_trans (small_s hcv hsm (List.mem_cons_of_mem _ List.mem_cons_self) (Nat.le_of_lt hi20)) (by decide)
        have hxb : xb'.length ≤ 1000 := len_snoc0 hxl
        have hxs0 := len_snoc0 hxl2
        have hxs : xs''.length ≤ 1000 := len_snoc0 hxs0
        clear hne
        refine k9 ?_
        let R : Ledger := led'' ++ (tl ++ news)
        replace hR : _ ∈ R := hR
        replace hfa' : _ ∈ R := hfa'
        replace hst' : _ ∈ R := hst'
        replace r1' : ∀ p ∈ R, p.1 ≠ bg := r1'
        replace r2' : ∀ p ∈ R, p.1 ≠ bd := r2'
        replace r4 : ∀ p ∈ R, p.1 ≠ ca := r4
        refine setFN (news := (T, _) :: (e, oe) :: (it, oi) :: (bg, _) :: (bd, _) :: (ba, _) :: (ca, _) :: R) F₂ N₂ ?_
        intro m3 n3 F3 N3
        clear F₂ N₂
        k_steps
        rename_i r9 tl9 hf9 hn9 hP9 _ _ _ _ _ F9 N9
        have hsub : ∀ p ∈ tl ++ news, p ∈ (tl9 ++ tl) ++ news := fun p hp => by rw [List.append_assoc]; exact List.mem_append_right _ hp
        have lt9 : ∀ q ∈ tl9, ∀ p ∈ (bg, lstO xb' (e1 + 1)) :: (bd, lstO (xs'' ++ [.ref ca]) (e2 + 1)) :: (ba, lstO bvs be) :: (ca, lstO cvs ce) :: (led'' ++ (tl ++ news)), @LT.lt Nat _ p.1 q.1 := fun q hq => ltSub (hf9 q hq) (by k_slotset)
        refine TurnEnd2.of (nw := (bg, lstO xb' (e1 + 1)) :: (bd, lstO (xs'' ++ [.ref ca]) (e2 + 1)) :: (ca, lstO (cvs ++ [r9]) (ce + 1)) :: (led'' ++ ((tl9 ++ tl) ++ news))) F9 N9 ?_ ?_ ⟨⟨xb', e1 + 1, xs'' ++ [.ref ca], e2 + 1, (ca, lstO (cvs ++ [r9]) (ce + 1)) :: led'', tl9 ++ tl, ?_, ?_, ?_⟩, rfl, rfl⟩
        · exact its2 (by k_slotset)
        · exact ends2 (allCons9 ⟨a1, a2⟩ (allCons9 ⟨b1, b2⟩ (allCons9 ⟨f1, f2⟩ (allMids9 (fun p hp => r3 p (List.mem_cons_of_mem _ (List.mem_cons_of_mem _ hp))) fun q hq => ⟨Nat.ne_of_gt (hf9 q hq (e, _) (by k_slotget)), Nat.ne_of_gt (hf9 q hq (it, _) (by k_slotget))⟩))))
        · rw [hgo]
          exact hB'.mono hsub
        · rw [hgo]
          exact .push (hD''.mono hsub) ((hcv.mono hsub).append (.cons (hP9.mono fun p hp => by rw [List.append_assoc]; exact hp) .nil))
        · exact hS.fin lt9 hn9
      --]F
    | @lead sa brk l lv nn t1 t2 hmem hlab =>
      --[L
      cases hD with
      | nil => exact absurd (wf_len _ _ hwf) (by simp)
      | @push xs' bvs led' bs b ba be hD' hbv =>
        have hR : _ ∈ led' ++ (tl ++ news) := List.mem_append_right _ (List.mem_append_right _ hmem)
        obtain ⟨c1, c2, c3⟩ := hne (ba, listOf bvs.toArray be) (by k_slotget)
        replace c1 := neN c1; replace c2 := neN c2; replace c3 := ltN c3
        dsimp only at c1 c2 c3
        have hba : @Ne Nat ba bg ∧ @Ne Nat ba bd ∧ ∀ p ∈ led' ++ (tl ++ news), p.1 ≠ ba := ⟨r1 (ba, listOf bvs.toArray be) (by k_slotget), r2 (ba, listOf bvs.toArray be) (by k_slotget), hS.top⟩
        obtain ⟨d1, d2, r4⟩ := hba
        have r1' : ∀ p ∈ led' ++ (tl ++ news), p.1 ≠ bg := fun p hp => r1 p (List.mem_cons_of_mem _ hp)
        have r2' : ∀ p ∈ led' ++ (tl ++ news), p.1 ≠ bd := fun p hp => r2 p (List.mem_cons_of_mem _ hp)
        have hbl : bvs.length ≤ 1000 := Nat.le_trans (small_s hbv hsm List.mem_cons_self (Nat.le_of_lt hi20)) (by decide)
        clear hne
        refine k9 ?_
        let R : Ledger := led' ++ (tl ++ news)
        replace hR : _ ∈ R := hR
        replace r1' : ∀ p ∈ R, p.1 ≠ bg := r1'
        replace r2' : ∀ p ∈ R, p.1 ≠ bd := r2'
        replace r4 : ∀ p ∈ R, p.1 ≠ ba := r4
        refine setFN (news := (T, _) :: (e, oe) :: (it, oi) :: (bg, _) :: (bd, _) :: (ba, _) :: R) F₂ N₂ ?_
        intro m3 n3 F3 N3
        clear F₂ N₂
        k_steps
        rename_i D9 _ _ _ _ lt5 _ _ F9 N9
        have hsub : ∀ p ∈ tl ++ news, p ∈ ((D9, tupOf #[.str (leadWord brk) t2, .int i ti, lv] 0) :: tl) ++ news := fun p hp => List.mem_cons_of_mem _ hp
        refine TurnEnd2.of (nw := (bg, lstO xb e1) :: (bd, lstO (xs' ++ [.ref ba]) e2) :: (ba, lstO (bvs ++ [.ref D9]) (be + 1)) :: (led' ++ ((D9, tupOf #[.str (leadWord brk) t2, .int i ti, lv] 0) :: (tl ++ news)))) F9 N9 ?_ ?_ ⟨⟨xb, e1, xs' ++ [.ref ba], e2, (ba, lstO (bvs ++ [.ref D9]) (be + 1)) :: led', (D9, tupOf #[.str (leadWord brk) t2, .int i ti, lv] 0) :: tl, ?_, ?_, ?_⟩, rfl, rfl⟩
        · exact its2 (by k_slotset)
        · exact ends2 (allCons9 ⟨a1, a2⟩ (allCons9 ⟨b1, b2⟩ (allCons9 ⟨c1, c2⟩ (allMid9 (fun p hp => r3 p (List.mem_cons_of_mem _ hp)) ⟨by dsimp only; k_ne, by dsimp only; k_ne⟩))))
        · rw [hgo]
          exact hB.mono hsub
        · rw [hgo]
          exact .push (hD'.mono hsub) ((hbv.mono hsub).append (.cons (.lead List.mem_cons_self hlab) .nil))
        · exact hS.lead (ltSub lt5 (by k_slotset))
      --]L
  ·
    --[W
    rintro m₁ nw h tk ⟨hst, hm1, hm2⟩ F₂ N₂
    refine hideG fun X9 k9 => ?_
    rw [hs.1, List.take_length] at hst
    obtain ⟨hwf, _, _⟩ := wf_at steps hf steps.length (Nat.le_refl _)
    have hsm := small_go steps steps.length
    rw [List.take_length] at hwf hsm
    obtain ⟨J', hJ'⟩ : ∃ J' : Nat → (Str → Option Value) → Ledger → Prop, J' = fun k m nw => ∃ x, k = x.1.length ∧ StOK news bg bd x nw ∧ m (Str.ofString "begun") = some (.ref bg) ∧ m (Str.ofString "bodies") = some (.ref bd) ∧ WfSt x.1 x.2 ∧ stClose x.1 x.2 = stmtsOf steps ∧ Small (40 - x.1.length) x := ⟨_, rfl⟩
    have hj : J' (stGo 0 steps ([], [[]])).1.length m₁ nw := by
      rw [hJ']
      exact ⟨_, rfl, hst, hm1, hm2, hwf, rfl, small_start hsm hz⟩
    clear N1 F1
    refine k9 ?_
    k_steps
    refine WhileAt.of J' _ N₂ hj ?_
    clear F₂ N₂ hm1 hm2 hst hj hsm k9
    intro kk m₂ nw₂ h₂ tk₂ hJ₂ F₂ N₂
    refine hideG fun X9 k9 => ?_
    rw [hJ'] at hJ₂
    obtain ⟨⟨bgs, bss⟩, hkk, ⟨xb, e1, xs, e2, led, tl, hB, hD, hS⟩, hm1, hm2, hwf₂, hcl, hsm⟩ := hJ₂
    dsimp only at hB hD hwf₂ hcl hsm hkk
    have hxl : xb.length ≤ 1000 := Nat.le_trans (small_b (x := (bgs, bss)) hB hsm (Nat.sub_le _ _)) (by decide)
    have hxl2 : xs.length ≤ 1000 := Nat.le_trans (small_d (x := (bgs, bss)) hD hsm (Nat.sub_le _ _)) (by decide)
    obtain ⟨hbb, r1, r2⟩ := hS.off
    replace F₂ := frSet2 F₂ hm1 hm2
    cases hB with
    | nil =>
      cases hD with
      | nil => exact absurd (wf_len _ _ hwf₂) (by simp)
      | @push xs' bvs led' bs b ba be hD' hbv =>
      cases hD' with
      | push _ _ => exact absurd (wf_len _ _ hwf₂) (by simp)
      | nil =>
      refine k9 ?_
      let R : Ledger := tl ++ news
      refine setFN (news := (bg, _) :: (bd, listOf [.ref ba].toArray _) :: (ba, _) :: R) F₂ N₂ ?_
      intro m3 n3 F3 N3
      clear F₂ N₂
      k_steps
      refine WhileTest.no ?_
      k_steps
      exact hq _ ((ba, listOf bvs.toArray be) :: (tl ++ news)) _ _ _ (by assumption) (News.perm (by assumption) (by k_slotset)) (hR _ _ _ _ (hS.sub).sub (hcl ▸ hbv))
    | @push xb' bgs' fa st k l lv j fn sn t3 t4 t5 hB' hfa hst hlab =>
      cases hD with
      | nil => exact absurd (wf_len _ _ hwf₂) (by simp)
      | @push xs' bvs led' bs b ba be hD' hbv =>
      cases hD' with
      | nil => exact absurd (wf_len _ _ hwf₂) (by simp)
      | @push xs'' cvs led'' bs' cb ca ce hD'' hcv =>
        have hfa' : _ ∈ led'' ++ (tl ++ news) := List.mem_append_right _ hfa
        have hst' : _ ∈ led'' ++ (tl ++ news) := List.mem_append_right _ hst
        have d1 : @Ne Nat ba bg := r1 (ba, listOf bvs.toArray be) (by k_slotget)
        have d2 : @Ne Nat ba bd := r2 (ba, listOf bvs.toArray be) (by k_slotget)
        have d3 : @Ne Nat ca bg := r1 (ca, listOf cvs.toArray ce) (by k_slotget)
        have d4 : @Ne Nat ca bd := r2 (ca, listOf cvs.toArray ce) (by k_slotget)
        have d5 : @Ne Nat ca ba := hS.top (ca, listOf cvs.toArray ce) (by k_slotget)
        have r1' : ∀ p ∈ led'' ++ (tl ++ news), p.1 ≠ bg := fun p hp => r1 p (List.mem_cons_of_mem _ (List.mem_cons_of_mem _ hp))
        have r2' : ∀ p ∈ led'' ++ (tl ++ news), p.1 ≠ bd := fun p hp => r2 p (List.mem_cons_of_mem _ (List.mem_cons_of_mem _ hp))
        have r4 : ∀ p ∈ led'' ++ (tl ++ news), p.1 ≠ ca := hS.two
        have hbl : bvs.length ≤ 40 := small_s hbv hsm List.mem_cons_self (Nat.sub_le _ _)
        have hcl2 : cvs.length ≤ 1000 := Nat.le_trans (small_s hcv hsm (List.mem_cons_of_mem _ List.mem_cons_self) (Nat.sub_le _ _)) (by decide)
        have hxb : xb'.length ≤ 1000 := len_snoc0 hxl
        have hxs0 := len_snoc0 hxl2
        have hxs : xs''.length ≤ 1000 := len_snoc0 hxs0
        refine k9 ?_
        let R : Ledger := led'' ++ (tl ++ news)
        replace hfa' : _ ∈ R := hfa'
        replace hst' : _ ∈ R := hst'
        replace r1' : ∀ p ∈ R, p.1 ≠ bg := r1'
        replace r2' : ∀ p ∈ R, p.1 ≠ bd := r2'
        replace r4 : ∀ p ∈ R, p.1 ≠ ca := r4
        refine setFN (news := (bg, _) :: (bd, _) :: (ba, _) :: (ca, _) :: R) F₂ N₂ ?_
        intro m3 n3 F3 N3
        clear F₂ N₂
        k_steps
        refine WhileTest.yes ?_
        k_steps
        rename_i r9 tl9 hf9 hn9 hP9 _ _ _ _ _ F9 N9
        obtain ⟨w1, w2, w3, w4⟩ := hwf₂
        obtain ⟨w5, _⟩ := wf_top bgs' cb bs' (.made k j l b) w1 ⟨w2, w3, by rw [← w2]; exact w4⟩
        have hsub : ∀ p ∈ tl ++ news, p ∈ (tl9 ++ tl) ++ news := fun p hp => by rw [List.append_assoc]; exact List.mem_append_right _ hp
        have lt9 : ∀ q ∈ tl9, ∀ p ∈ (bg, lstO xb' (e1 + 1)) :: (bd, lstO (xs'' ++ [.ref ca]) (e2 + 1)) :: (ba, lstO bvs be) :: (ca, lstO cvs ce) :: (led'' ++ (tl ++ news)), @LT.lt Nat _ p.1 q.1 := fun q hq => ltSub (hf9 q hq) (by k_slotset)
        refine WhileEnd.of (nw := (bg, lstO xb' (e1 + 1)) :: (bd, lstO (xs'' ++ [.ref ca]) (e2 + 1)) :: (ca, lstO (cvs ++ [r9]) (ce + 1)) :: (led'' ++ ((tl9 ++ tl) ++ news))) (k' := bgs'.length) (hkk ▸ Nat.lt_succ_self _) F9 N9 ?_ ?_
        · k_slotset
        rw [hJ']
        refine ⟨(bgs', (cb ++ [.made k j l b]) :: bs'), rfl, ⟨xb', e1 + 1, xs'' ++ [.ref ca], e2 + 1, (ca, lstO (cvs ++ [r9]) (ce + 1)) :: led'', tl9 ++ tl, hB'.mono hsub,
          .push (hD''.mono hsub) ((hcv.mono hsub).append (.cons (hP9.mono fun p hp => by rw [List.append_assoc]; exact hp) .nil)), ?_⟩, rfl, rfl, w5, ?_, ?_⟩
        · exact hS.fin lt9 hn9
        · rw [← hcl]
          rfl
        · exact small_pop hsm
    --]W

theorem fresh_ReadRel : True := by
  w_top off
  exact trivial
/-- values that are compared by what they are -/
noncomputable def Simple : Value → Prop
  | .none => True
  | .str _ _ => True
  | .int _ _ => True
  | _ => False
noncomputable def simEq : Value → Value → Bool
  | .none, .none => true
  | .str a _, .str b _ => a == b
  | .int a _, .int b _ => a == b
  | _, _ => false
theorem simEq_at {A : Around} {s : Shared} : ∀ {y x : Value}, Simple y → Simple x → PySem.SeqAt.EqAt A s y x (simEq y x)
  | .none, .none, _, _ => PySem.SeqAt.EqAt.same _
  | .none, .str _ _, _, _ => PySem.SeqAt.EqAt.none_str _ _
  | .none, .int _ _, _, _ => PySem.SeqAt.EqAt.none_int _ _
  | .str _ _, .none, _, _ => PySem.SeqAt.EqAt.str_none _ _
  | .str _ _, .str _ _, _, _ => PySem.SeqAt.EqAt.str_str _ _ _ _
  | .str _ _, .int _ _, _, _ => PySem.SeqAt.EqAt.str_int _ _ _ _
  | .int _ _, .none, _, _ => PySem.SeqAt.EqAt.int_none _ _
  | .int _ _, .str _ _, _, _ => PySem.SeqAt.EqAt.int_str _ _ _ _
  | .int _ _, .int _ _, _, _ => PySem.SeqAt.EqAt.int_int _ _ _ _
section
variable {prog : Program} {w : World} {A : Around} {E : Value → Shared → Prop} {s : Shared} {h₀ : Heap} {L l : Addr} {news : Ledger} {vs : List Value} {n : Nat} {x : Value} {b : Bool} {Q : Value → Shared → Prop}
theorem Ev.inS {k : Nat} (N : News h₀ L s.heap news) (hm : (l, listOf vs.toArray n) ∈ news) (hs : ∀ y ∈ vs, Simple y) (hx : Simple x) (hb : vs.any (fun y => simEq y x) = b) : Ev prog w A s k (compareOp .In x (.ref l)) (.bool b) k :=
  .mk fun _ _ h => PySem.SeqAt.in_listAt (s := adv s k) (fun y => simEq y x) (isL (s := adv s k) N hm) (fun y hy => simEq_at (hs y (by simpa using hy)) hx) (by rw [← hb] at h; simpa using h)
theorem Ev.niS {k : Nat} (N : News h₀ L s.heap news) (hm : (l, listOf vs.toArray n) ∈ news) (hs : ∀ y ∈ vs, Simple y) (hx : Simple x) (hb : (!vs.any (fun y => simEq y x)) = b) : Ev prog w A s k (compareOp .NotIn x (.ref l)) (.bool b) k :=
  .mk fun _ _ h => PySem.SeqAt.notIn_listAt (s := adv s k) (fun y => simEq y x) (isL (s := adv s k) N hm) (fun y hy => simEq_at (hs y (by simpa using hy)) hx) (by rw [← hb] at h; simpa using h)
end
/-- a label's text -/
noncomputable def Lab.text : Lab → Str
  | .no => Str.ofString ""
  | .a => Str.ofString "A"
  | .b => Str.ofString "B"
  | .u => Str.ofString "_"
theorem LabV.str {l : Lab} {v : Value} (h : LabV l v) (hn : l ≠ .no) : ∃ t, v = .str l.text t := by
  cases h with
  | no => exact absurd rfl hn
  | a => exact ⟨_, rfl⟩
  | b => exact ⟨_, rfl⟩
  | u => exact ⟨_, rfl⟩
theorem LabV.none {v : Value} (h : LabV .no v) : v = .none := by cases h; rfl
theorem LabV.simple {l : Lab} {v : Value} (h : LabV l v) : Simple v := by cases h <;> trivial
theorem text_inj {l l' : Lab} (h : l ≠ .no) (h' : l' ≠ .no) : (l.text == l'.text) = (l == l') := by cases l <;> cases l' <;> first | rfl | exact absurd rfl h | exact absurd rfl h' | decide
theorem text_u {l : Lab} (h : l ≠ .no) : (l.text == Str.ofString "_") = (l == .u) := text_inj h (l' := .u) (by decide)
theorem tells_no {l : Lab} (h : l.tells = true) : l ≠ .no := by rintro rfl; cases h
theorem simEq_lab {l l' : Lab} {v v' : Value} (h : LabV l v) (h' : LabV l' v') : simEq v v' = (l == l') := by cases h <;> cases h' <;> first | rfl | decide

theorem Ev.eqL {prog : Program} {w : World} {A : Around} {s : Shared} {k : Nat} {l l' : Lab} {x y : Value} (hx : LabV l x) (hy : LabV l' y) : Ev prog w A s k (compareOp .Eq x y) (.bool (l == l')) k := .mk fun _ _ h => by
  rw [← simEq_lab hx hy] at h
  cases hx with
  | no => cases hy with
    | no => exact PySem.EqNone.eq_none_none h
    | _ => exact PySem.EqNone.eq_none_str h
  | _ => cases hy with
    | no => exact PySem.EqNone.eq_str_none h
    | _ => exact eq_str h
theorem Ev.neU {prog : Program} {w : World} {A : Around} {s : Shared} {k : Nat} {l : Lab} {x : Value} {t : Tok} (hx : LabV l x) : Ev prog w A s k (compareOp .NotEq x (.str (Str.ofString "_") t)) (.bool (l != .u)) k := .mk fun _ _ h => by
  rw [bne, ← simEq_lab hx (.u (t := t))] at h
  cases hx with
  | no => exact PySem.EqNone.ne_none_str h
  | _ => exact ne_str h
theorem Ev.isnL {prog : Program} {w : World} {A : Around} {s : Shared} {k : Nat} {l : Lab} {x : Value} (hx : LabV l x) : Ev prog w A s k (compareOp .IsNot x .none) (.bool (l != .no)) k := .mk fun _ _ h => by
  cases hx with
  | no => exact isnot_none_none h
  | _ => exact isnot_str_none h
/-- a row of the opened, of the told; a label led to -/
noncomputable def OpIn (nw : Ledger) (v : Value) (x : Kd × Lab × Value) : Prop := ∃ a n t, v = .ref a ∧ (a, tupOf #[.str x.1.word t, x.2.2] n) ∈ nw ∧ LabV x.2.1 x.2.2
noncomputable def ToIn (nw : Ledger) (v : Value) (x : Lab × Nat × Value) : Prop := ∃ a n t, v = .ref a ∧ (a, tupOf #[x.2.2, .int (x.2.1 : Int) t] n) ∈ nw ∧ LabV x.1 x.2.2 ∧ x.1.tells = true
noncomputable def LeIn (v : Value) (x : Lab) : Prop := LabV x v ∧ x ≠ .no
theorem OpIn.mono {nw nw' : Ledger} (hs : ∀ p ∈ nw, p ∈ nw') (v : Value) (x : Kd × Lab × Value) : OpIn nw v x → OpIn nw' v x := fun ⟨a, n, t, e, h, l⟩ => ⟨a, n, t, e, hs _ h, l⟩
theorem ToIn.mono {nw nw' : Ledger} (hs : ∀ p ∈ nw, p ∈ nw') (v : Value) (x : Lab × Nat × Value) : ToIn nw v x → ToIn nw' v x := fun ⟨a, n, t, e, h, l⟩ => ⟨a, n, t, e, hs _ h, l⟩
theorem All2.unsnoc {α : Type} {R : Value → α → Prop} {x : α} {xs : List α} {vs : List Value} (h : All2 R vs (xs ++ [x])) : ∃ vs' v, vs = vs' ++ [v] ∧ All2 R vs' xs ∧ R v x := by
  induction xs generalizing vs with
  | nil =>
    cases h with
    | cons a t =>
      cases t
      exact ⟨[], _, rfl, .nil, a⟩
  | cons y xs ih =>
    cases h with
    | cons a t =>
      obtain ⟨vs', v, rfl, b, c⟩ := ih t
      exact ⟨_ :: vs', v, rfl, .cons a b, c⟩
theorem All2.right {α : Type} {R : Value → α → Prop} {x : α} {vs : List Value} {xs : List α} (h : All2 R vs xs) (hx : x ∈ xs) : ∃ v, R v x := by
  induction h with
  | nil => cases hx
  | cons a _ ih =>
    rcases List.mem_cons.mp hx with rfl | hx
    · exact ⟨_, a⟩
    · exact ih hx
theorem sim_nil : ∀ y ∈ ([] : List Value), Simple y := fun _ h => nomatch h
theorem sim_cons {x : Value} {vs : List Value} (h : Simple x) (t : ∀ y ∈ vs, Simple y) : ∀ y ∈ x :: vs, Simple y := fun y hy => by
  rcases List.mem_cons.mp hy with rfl | hy
  · exact h
  · exact t y hy
theorem ToIn.simple {nw : Ledger} {vs : List Value} {xs : List (Lab × Nat × Value)} (h : All2 (ToIn nw) vs xs) : ∀ y ∈ ((xs.filter fun _ => true).map fun x => x.2.2), Simple y := by
  intro y hy
  obtain ⟨z, hz, rfl⟩ := List.mem_map.mp hy
  obtain ⟨v, a, n, t, _, _, l, _⟩ := h.right (List.mem_filter.mp hz).1
  exact l.simple
theorem ToIn.has {nw : Ledger} {l : Lab} {v : Value} (hl : LabV l v) : ∀ {vs : List Value} {xs : List (Lab × Nat × Value)}, All2 (ToIn nw) vs xs →
    (((xs.filter fun _ => true).map fun x => x.2.2).any fun y => simEq y v) = ((xs.map fun x => (x.1, x.2.1)).map (·.1)).contains l
  | _, _, .nil => by simp
  | _, _, .cons (x := x) h t => by
    obtain ⟨a, n, t', _, _, lx, _⟩ := h
    have ih := ToIn.has hl t
    simp only [List.filter_cons_of_pos, List.map_cons, List.any_cons, List.contains_cons, ih, simEq_lab lx hl]
    congr 1
    cases l <;> cases x.1 <;> rfl
theorem rd_ne {c1 c2 op to le e it : Addr} {o1 o2 o3 o4 o5 oe oi : Obj} {R X : Ledger} (a1 : @Ne Nat c1 e) (a2 : @Ne Nat c1 it) (b1 : @Ne Nat c2 e) (b2 : @Ne Nat c2 it) (d1 : @Ne Nat op e) (d2 : @Ne Nat op it) (f1 : @Ne Nat to e) (f2 : @Ne Nat to it) (g1 : @Ne Nat le e) (g2 : @Ne Nat le it)
    (r0 : ∀ p ∈ R, p.1 ≠ e ∧ p.1 ≠ it) (x0 : ∀ p ∈ X, p.1 ≠ e ∧ p.1 ≠ it) : ∀ p ∈ (c1, o1) :: (c2, o2) :: (op, o3) :: (to, o4) :: (le, o5) :: (X ++ R), ∀ q ∈ [(e, oe), (it, oi)], p.1 ≠ q.1 := by
  intro p hp q hq
  have key : p.1 ≠ e ∧ p.1 ≠ it := by
    simp only [List.mem_cons, List.mem_append] at hp
    rcases hp with rfl | rfl | rfl | rfl | rfl | hp | hp
    · exact ⟨a1, a2⟩
    · exact ⟨b1, b2⟩
    · exact ⟨d1, d2⟩
    · exact ⟨f1, f2⟩
    · exact ⟨g1, g2⟩
    · exact x0 p hp
    · exact r0 p hp
  simp only [List.mem_cons, List.not_mem_nil, or_false] at hq
  rcases hq with rfl | rfl
  · exact key.1
  · exact key.2
noncomputable def kindOK (brk : Bool) (k : Kd) : Bool := k.left && (brk || k.loop)
theorem hits_1 (brk : Bool) (xs : List (Kd × Lab × Value)) : ((xs.filter fun x => kindOK brk x.1).map fun x => x.2.2).isEmpty = !hits brk .no (xs.map fun x => (x.1, x.2.1)).reverse := by
  unfold hits
  rw [List.any_reverse]
  induction xs with
  | nil => rfl
  | cons x r ih =>
    simp only [List.map_cons, List.any_cons, List.filter_cons]
    cases h : kindOK brk x.1
    · simp only [Bool.false_eq_true, if_false, ih]
      unfold kindOK at h
      simp [h]
    · unfold kindOK at h
      simp [h]
theorem hits_2 (brk : Bool) (l : Lab) (hl : l ≠ .no) (xs : List (Kd × Lab × Value)) : ((((xs.filter fun x => kindOK brk x.1).map fun x => x.2).filter fun x => x.1 == l && l != .u).map fun x => x.2).isEmpty = !hits brk l (xs.map fun x => (x.1, x.2.1)).reverse := by
  unfold hits
  rw [List.any_reverse]
  have hno : (l == Lab.no) = false := by cases l <;> first | rfl | exact absurd rfl hl
  induction xs with
  | nil => rfl
  | cons x r ih =>
    simp only [List.map_cons, List.any_cons, List.filter_cons]
    cases h : kindOK brk x.1
    · simp only [Bool.false_eq_true, if_false, ih]
      unfold kindOK at h
      simp [h]
    · simp only [if_true, List.map_cons, List.filter_cons]
      unfold kindOK at h
      cases h2 : (x.2.1 == l && l != .u)
      · simp only [Bool.false_eq_true, if_false, ih]
        simp [h, h2, hno]
      · simp [h, h2, hno]
theorem labs_of {nw : Ledger} {brk : Bool} : ∀ {vs : List Value} {xs : List (Kd × Lab × Value)}, All2 (OpIn nw) vs xs →
    All2 (fun v (x : Lab × Value) => v = x.2 ∧ LabV x.1 x.2) ((xs.filter fun x => kindOK brk x.1).map fun x => x.2.2) ((xs.filter fun x => kindOK brk x.1).map fun x => x.2)
  | _, _, .nil => .nil
  | _, _, .cons (x := x) h t => by
    obtain ⟨a, n, t', _, _, lx⟩ := h
    simp only [List.filter_cons]
    cases kindOK brk x.1
    · exact labs_of t
    · exact .cons ⟨rfl, lx⟩ (labs_of t)
theorem kinds_b {t1 t2 t3 t4 t5 t : Tok} (k : Kd) : ([Value.str (Str.ofString "for") t1, .str (Str.ofString "range") t2, .str (Str.ofString "switch") t3, .str (Str.ofString "typeswitch") t4, .str (Str.ofString "choose") t5].any fun y => simEq y (.str k.word t)) = kindOK true k := by
  cases k <;> simp only [List.any_cons, List.any_nil, simEq, Kd.word, kindOK, Kd.left, Kd.loop] <;> decide
theorem kinds_c {t1 t2 t : Tok} (k : Kd) : ([Value.str (Str.ofString "for") t1, .str (Str.ofString "range") t2].any fun y => simEq y (.str k.word t)) = kindOK false k := by
  cases k <;> simp only [List.any_cons, List.any_nil, simEq, Kd.word, kindOK, Kd.left, Kd.loop] <;> decide
section
variable {i : Nat} {k : Kd} {l : Lab} {brk : Bool} {r : List Step} {o : List (Kd × Lab)} {told : List (Lab × Nat)} {led : List Lab}
theorem rg_beg1 (a : l.tells = true) (b : (told.map (·.1)).contains l = true) : readGo i (.beg k l :: r) o told led = (some i, told, led) := by rw [readGo, a, b]; rfl
theorem rg_beg2 (a : l.tells = true) (b : (told.map (·.1)).contains l = false) : readGo i (.beg k l :: r) o told led = readGo (i + 1) r ((k, l) :: o) (told ++ [(l, i)]) led := by rw [readGo, a, b]; rfl
theorem rg_beg3 (a : l.tells = false) : readGo i (.beg k l :: r) o told led = readGo (i + 1) r ((k, l) :: o) told led := by rw [readGo, a]; rfl
theorem rg_lead1 (a : hits brk l o = true) : readGo i (.lead brk l :: r) o told led = readGo (i + 1) r o told (if l = .no then led else led ++ [l]) := by rw [readGo, a]; rfl
theorem rg_lead2 (a : hits brk l o = false) : readGo i (.lead brk l :: r) o told led = (some i, told, if l = .no then led else led ++ [l]) := by rw [readGo, a]; rfl
end
theorem fine_beg {n : Nat} {k : Kd} {l : Lab} {r : List Step} (h : Fine n (.beg k l :: r)) : Fine (n + 1) r := by cases n <;> exact h.2
theorem fine_lead {n : Nat} {brk : Bool} {l : Lab} {r : List Step} (h : Fine n (.lead brk l :: r)) : Fine n r := by cases n <;> exact h
noncomputable def FaultV : Option Nat → Value → Prop
  | none, v => v = .none
  | some i, v => ∃ t, v = .int (i : Int) t
/-- what `_law_read` gives back -/
inductive RdPost (news : Ledger) (steps : List Step) : Value → Ledger → Prop
  | mk (D : Addr) (k : Nat) (vf : Value) (to : Addr) (xt : List Value) (et : Nat) (le : Addr) (xl : List Value) (el : Nat) (tl : Ledger) (told : List (Lab × Nat × Value)) (led : List Lab) (fault : Option Nat) (hD : (D, tupOf #[vf, .ref to, .ref le] k) ∈ tl) (hto : (to, listOf xt.toArray et) ∈ tl) (hle : (le, listOf xl.toArray el) ∈ tl) (hfr : ∀ q ∈ tl, ∀ p ∈ news, @LT.lt Nat _ p.1 q.1)
    (hT : All2 (ToIn (tl ++ news)) xt told) (hL : All2 LeIn xl led) (bt : told.length ≤ 20) (bl : led.length ≤ 20) (hrd : readGo 0 steps [] [] [] = (fault, told.map (fun x => (x.1, x.2.1)), led)) (hfv : FaultV fault vf) : RdPost news steps (.ref D) (tl ++ news)
theorem rd_ret {news tl : Ledger} {steps : List Step} {c D to le : Addr} {k et el : Nat} {vf : Value} {xt xl : List Value} {told : List (Lab × Nat × Value)} {led : List Lab} {fault : Option Nat} (lnw : ∀ p ∈ news, @LT.lt Nat _ p.1 c) (h1 : @LT.lt Nat _ c D) (h2 : @LT.lt Nat _ c to) (h3 : @LT.lt Nat _ c le)
    (htl : ∀ q ∈ tl, @LT.lt Nat _ le q.1) (hT : All2 (ToIn (tl ++ news)) xt told) (hL : All2 LeIn xl led) (bt : told.length ≤ 20) (bl : led.length ≤ 20) (hr : readGo 0 steps [] [] [] = (fault, told.map (fun x => (x.1, x.2.1)), led)) (hv : FaultV fault vf) :
    RdPost news steps (.ref D) (((D, tupOf #[vf, .ref to, .ref le] k) :: (to, listOf xt.toArray et) :: (le, listOf xl.toArray el) :: tl) ++ news) := by
  refine ⟨D, k, vf, to, xt, et, le, xl, el, _, told, led, fault, by simp, by simp, by simp, ?_, hT.imp (ToIn.mono fun p hp => ?_), hL, bt, bl, hr, hv⟩
  · intro q hq p hp
    have := lnw p hp
    simp only [List.mem_cons] at hq
    rcases hq with rfl | rfl | rfl | hq
    · exact Nat.lt_trans this h1
    · exact Nat.lt_trans this h2
    · exact Nat.lt_trans this h3
    · exact Nat.lt_trans this (Nat.lt_trans h3 (htl q hq))
  · simp only [List.cons_append, List.mem_cons]
    exact .inr (.inr (.inr hp))
theorem kinds_b' (k : Kd) : ([Str.ofString "for", Str.ofString "range", Str.ofString "switch", Str.ofString "typeswitch", Str.ofString "choose"].any fun y => y == k.word) = kindOK true k := by cases k <;> decide
theorem kinds_c' (k : Kd) : ([Str.ofString "for", Str.ofString "range"].any fun y => y == k.word) = kindOK false k := by cases k <;> decide
section
variable {x l : Lab} (hx : ¬ x = .no) (hl : l ≠ .no)
include hx hl
theorem lab_1 (h : (x.text == l.text) = true) (h2 : (x.text != Str.ofString "_") = true) : true = (x == l && l != .u) := by
  rw [text_inj hx hl] at h
  rw [bne, text_u hx] at h2
  obtain rfl : x = l := by simpa using h
  rw [bne, h2]
  simp
theorem lab_2 (h : (x.text == l.text) = true) (h2 : (x.text != Str.ofString "_") = false) : false = (x == l && l != .u) := by
  rw [text_inj hx hl] at h
  rw [bne, text_u hx] at h2
  obtain rfl : x = l := by simpa using h
  rw [bne, h2]
  simp
theorem lab_3 (h : (x.text == l.text) = false) : false = (x == l && l != .u) := by
  rw [text_inj hx hl] at h
  rw [h]
  simp
end
theorem six_ne {a b c d e : Nat} (h1 : a < b) (h2 : b < c) (h3 : c < d) (h4 : d < e) : (a ≠ b ∧ a ≠ c ∧ a ≠ d ∧ a ≠ e) ∧ (b ≠ c ∧ b ≠ d ∧ b ≠ e) ∧ (c ≠ d ∧ c ≠ e) ∧ d ≠ e :=
  have h13 := Nat.lt_trans h1 h2
  have h24 := Nat.lt_trans h2 h3
  have h35 := Nat.lt_trans h3 h4
  ⟨⟨Nat.ne_of_lt h1, Nat.ne_of_lt h13, Nat.ne_of_lt (Nat.lt_trans h13 h3), Nat.ne_of_lt (Nat.lt_trans h13 h35)⟩, ⟨Nat.ne_of_lt h2, Nat.ne_of_lt h24, Nat.ne_of_lt (Nat.lt_trans h2 h35)⟩, ⟨Nat.ne_of_lt h3, Nat.ne_of_lt h35⟩, Nat.ne_of_lt h4⟩
theorem six_off {a b c d e : Nat} {news tl : Ledger} (h1 : a < b) (h2 : b < c) (h3 : c < d) (h4 : d < e) (hn : ∀ p ∈ news, @LT.lt Nat _ p.1 a) (ht : ∀ q ∈ tl, @LT.lt Nat _ e q.1) :
    (∀ p ∈ tl ++ news, p.1 ≠ a) ∧ (∀ p ∈ tl ++ news, p.1 ≠ b) ∧ (∀ p ∈ tl ++ news, p.1 ≠ c) ∧ (∀ p ∈ tl ++ news, p.1 ≠ d) ∧ (∀ p ∈ tl ++ news, p.1 ≠ e) := by
  have key : ∀ x : Nat, a ≤ x → x ≤ e → ∀ p ∈ tl ++ news, p.1 ≠ x := fun x hx hx' p hp => by
    rcases List.mem_append.mp hp with hp | hp
    · exact Nat.ne_of_gt (Nat.lt_of_le_of_lt hx' (ht p hp))
    · exact Nat.ne_of_lt (Nat.lt_of_lt_of_le (hn p hp) hx)
  exact ⟨key a (by omega) (by omega), key b (by omega) (by omega), key c (by omega) (by omega), key d (by omega) (by omega), key e (by omega) (by omega)⟩
theorem len_app1 {α : Type} {xs : List α} {x : α} {i : Nat} (h : xs.length ≤ i) : (xs ++ [x]).length ≤ i + 1 := by rw [List.length_append]; exact Nat.succ_le_succ h
theorem len_unapp {α : Type} {xs : List α} {x : α} {i : Nat} (h : (xs ++ [x]).length ≤ i) : xs.length ≤ i := by rw [List.length_append] at h; exact Nat.le_of_succ_le h

local macro_rules | `(tactic| lge_go) => `(tactic| (k_asm; (focus lge_bears); (first | assumption | exact sim_cons trivial (sim_cons trivial sim_nil) | exact sim_cons trivial (sim_cons trivial (sim_cons trivial sim_nil))); (first | exact trivial | assumption); (first | apply_assumption | exact (rfl : _ = true) | exact (rfl : _ = false))))
local macro_rules | `(tactic| walk_at "pe") => `(tactic| first | ((with_reducible apply Ev.inS); lge_go) | ((with_reducible apply Ev.niS); lge_go))
local macro_rules | `(tactic| walk_at "compareOp NotIn") => `(tactic| walk_at "ev")
local macro_rules | `(tactic| walk_at "compareOp NotIn str ref") => `(tactic| walk_at "ev")
local macro_rules | `(tactic| walk_at "compareOp In") => `(tactic| walk_at "ev")
local macro_rules | `(tactic| walk_at "compareOp In str ref") => `(tactic| walk_at "ev")
local macro_rules | `(tactic| walk_at "pe") => `(tactic| first | ((with_reducible apply Ev.neU); (with_reducible assumption)) | ((with_reducible apply Ev.isnL); (with_reducible assumption)) | ((with_reducible apply Ev.eqL); (with_reducible assumption); (with_reducible assumption)))
theorem fresh_PanI : True := by
  w_top off
  exact trivial
theorem pf1 {a x : Str} {c d : Bool} (h : (a != x) = true) : Value.bool false = .bool ((a == x) && (!c && d)) := by
  have : (a == x) = false := by simpa [bne] using h
  rw [this]; rfl
theorem pf2 {a x : Str} {c d : Bool} (h : c = true) : Value.bool false = .bool ((a == x) && (!c && d)) := by
  rw [h]; simp
theorem pf3 {a x : Str} {c d : Bool} (h : (a != x) = false) (h2 : c = false) : Value.bool d = .bool ((a == x) && (!c && d)) := by
  have : (a == x) = true := by simpa [bne] using h
  rw [this, h2]; rfl
theorem pf4 {a x : Str} {b9 : Bool} {c y : Str} {e : Bool} (h : (a != x) = false) (h2 : b9 = false) (h3 : (c == y) = false) : Value.bool (c == y) = .bool ((a == x) && (!b9 && ((c == y) && e))) := by rw [h2, h3]; simp
theorem pf5 {a x : Str} {b9 : Bool} {c y : Str} {e : Bool} (h : (a != x) = false) (h2 : b9 = false) (h3 : (c == y) = true) : Value.bool e = .bool ((a == x) && (!b9 && ((c == y) && e))) := by
  have : (a == x) = true := by simpa [bne] using h
  rw [this, h2, h3]; rfl
theorem k_eq {K : Value → Ledger → Prop} {v v' : Value} {n : Ledger} (h : K v' n) (e : v = v') : K v n := e ▸ h
set_option maxRecDepth 100000 in
set_option maxHeartbeats 0 in
theorem isC {w : World} {st l Dv Dc De : Addr} {news : Ledger} {wk cw ww : Str} {t1 t2 t3 t4 t5 : Tok} {n nv nc nl : Nat} {vs its : List Value} {sp : Int} {b9 : Bool} (hst : (st, tupOf #[.str wk t1, .int 2 t2, .ref Dv] n) ∈ news) (hv : (Dv, tupOf #[.str (Str.ofString "call") t3, .int sp t4, .ref Dc, .ref De, .bool false] nv) ∈ news) (hc : (Dc, tupOf its.toArray nc) ∈ news)
    (hl : (l, listOf vs.toArray nl) ∈ news) (hc0 : its[0]? = some (.str cw t5)) (hc2 : (cw == Str.ofString "name") = true → ∃ t7, its[2]? = some (.str ww t7)) (hs : ∀ y ∈ vs, Simple y) (hb9 : ∀ t, vs.any (fun y => simEq y (.int sp t)) = b9) :
    Con w 68 2 20 [.ref st, .ref l] news (fun K => K (.bool ((wk == Str.ofString "expr") && (!b9 && ((cw == Str.ofString "name") && (ww == Str.ofString "panic"))))) news) := by
  refine' con_enter ?ho ?hcd ?hb ?hl ?hf ?_
  case ho => k_is
  case hcd => k_is
  case hb => exact fun _ => BindsTo.of_eq rfl
  case hl => exact rfl
  case hf => exact rfl
  intro p loose mean mg mb dp u gd outer A base g L h g9 d9 tk o9 K Q B X T hd hu hR hq e9 a9 m9 F N
  k_steps
  all_goals first | (rename (cw == Str.ofString "name") = true => h8; refine hideG fun X9 k9 => ?_; obtain ⟨t7, h7⟩ := hc2 h8; refine k9 ?_; k_steps) | skip
  all_goals refine hq _ _ _ _ _ (by assumption) (by assumption) (k_eq hR ?_)
  all_goals first | exact pf1 (by assumption) | exact pf2 (by assumption) | exact pf5 (by assumption) (by assumption) (by assumption) | exact pf4 (by assumption) (by assumption) (by assumption)
set_option maxRecDepth 100000 in
set_option maxHeartbeats 0 in
theorem isN {w : World} {st l Dv : Addr} {news : Ledger} {wk vw : Str} {t1 t2 t3 : Tok} {n nv : Nat} {its : List Value} (hst : (st, tupOf #[.str wk t1, .int 2 t2, .ref Dv] n) ∈ news) (hv : (Dv, tupOf its.toArray nv) ∈ news) (h0 : its[0]? = some (.str vw t3)) (hne : (vw == Str.ofString "call") = false) :
    Con w 68 2 20 [.ref st, .ref l] news (fun K => K (.bool false) news) := by
  refine' con_enter ?ho ?hcd ?hb ?hl ?hf ?_
  case ho => k_is
  case hcd => k_is
  case hb => exact fun _ => BindsTo.of_eq rfl
  case hl => exact rfl
  case hf => exact rfl
  intro p loose mean mg mb dp u gd outer A base g L h g9 d9 tk o9 K Q B X T hd hu hR hq e9 a9 m9 F N
  k_steps
  all_goals first
    | exact hq _ _ _ _ _ (by assumption) (by assumption) hR
    | (exfalso; rename_i h9; rw [bne, hne] at h9; cases h9)

local macro_rules | `(tactic| walk_at "call ref") => `(tactic| (k_here; (with_reducible show wpAny _ _ (call (Value.ref 68) _ _) _ _ _); k_dflt (first
  | refine Con.use (by k_asm) (by k_asm) (by k_asm) rfl (by lgec_go) (by lgec_go) (by k_asm) (by k_asm) (isC (by lge_bears) (by lge_bears) (by lge_bears) (by lge_bears) (by assumption) (by assumption) (by exact sim_cons trivial (sim_cons trivial (sim_cons trivial sim_nil))) (by intro t9; apply_assumption)) ?_
  | refine Con.use (by k_asm) (by k_asm) (by k_asm) rfl (by lgec_go) (by lgec_go) (by k_asm) (by k_asm) (isN (by lge_bears) (by lge_bears) (by assumption) (by assumption)) ?_); intro h' tk' F' N'))
theorem fresh_Panics : True := by
  w_top off
  exact trivial
theorem mem3 {x a b c : Value} (h : x ∈ [a, b, c]) : x = a ∨ x = b ∨ x = c := by simpa using h
theorem mem_ref {a b : Addr} {o : Obj} {l : Ledger} (h : Value.ref a = .ref b) (m : (b, o) ∈ l) : (a, o) ∈ l := by cases h; exact m
theorem pc1 {a : Bool} (h2 : (false != !a) = true) (h : a = true) : False := by subst h; cases h2
theorem pc2 {a : Bool} (h2 : (false != a) = true) (h : a = false) : False := by subst h; cases h2
theorem pd3 {a e n p : Bool} (h2 : ((e && (!a && (n && p))) != !a) = true) (h : a = true) : False := by subst h; cases e <;> cases n <;> cases p <;> cases h2
theorem pd4 {a e n p : Bool} (h2 : ((e && (!a && (n && p))) != (Str.ofString "call" == Str.ofString "call")) = true) (h1 : n = true) (h3 : p = true) (h : a = false) (h4 : e = true) : False := by subst h h1 h3 h4; simp at h2
theorem pd5 {a e n p : Bool} (h2 : ((e && (!a && (n && p))) != e) = true) (h : e = false) : False := by subst h; cases a <;> cases n <;> cases p <;> cases h2
theorem pd6 {a e n p : Bool} (h2 : ((e && (!a && (n && p))) != p) = true) (h : p = false) : False := by subst h; cases a <;> cases n <;> cases e <;> cases h2
theorem pd7 {a e n p : Bool} (h2 : ((e && (!a && (n && p))) != n) = true) (h : n = false) : False := by subst h; cases a <;> cases p <;> cases e <;> cases h2
/-- the loop of panics_right: what stands between two turns -/
noncomputable def PanJ (sp l : Addr) (ol : Obj) (rest : Ledger) (_ : Nat) (m : Str → Option Value) (nw : Ledger) : Prop :=
  m (Str.ofString "others") = some (.ref l) ∧ m (Str.ofString "spool") = some (.ref sp) ∧ ∃ o', Spool o' ∧ nw = (l, ol) :: (sp, o') :: rest
set_option maxRecDepth 100000 in
set_option maxHeartbeats 0 in
theorem panics {w : World} {sp : Addr} {o : Obj} {rest : Ledger} (hS : Spool o) (hr : ∀ p ∈ rest, p.1 ≠ sp) :
    Con w 174 6 100 [.ref sp] ((sp, o) :: rest) (fun K => ∀ n', (∀ p ∈ rest, p ∈ n') → K (.bool true) n') := by
  refine' con_enter ?ho ?hcd ?hb ?hl ?hf ?_
  case ho => k_is
  case hcd => k_is
  case hb => exact fun _ => BindsTo.of_eq rfl
  case hl => exact rfl
  case hf => exact rfl
  intro p loose mean mg mb dp u gd outer A base g L h g9 d9 tk o9 K Q B X T hd hu hR hq e9 a9 m9 F N
  have pk : ParkHere := ⟨⟩
  k_steps
  rename_i pk9 kA tA oA _ _ hSA _ _ _ lA ol _ _ _ lt1 _ _ _ F3 N3 h4 tk4 _ _ _ hRange F4 N4 hkeep
  clear pk9 F3 N3 hkeep
  k_dflt (refine' iter_range (n := 4) (PanJ sp lA ol rest) ?hh hRange rfl rfl F4 N4 ⟨rfl, rfl, oA, hSA, rfl⟩ ?turn ?done; (case hh => exact rfl))
  case turn =>
    clear F4 N4 hRange
    intro I i tI m₁ nw h tk oI hlt hi hJ hne F2 N2
    refine hideG fun X9 k9 => ?_
    obtain ⟨hm1, hm2, o', hS', rfl⟩ := hJ
    replace F2 := frSet2 (x := Str.ofString "others") (y := Str.ofString "spool") F2 hm1 hm2
    have b1 : @Ne Nat sp I := hne (sp, o') (List.mem_cons_of_mem _ List.mem_cons_self)
    have b2 : @Ne Nat lA I := hne (lA, _) List.mem_cons_self
    have b3 : @Ne Nat sp lA := by k_ne
    have b4 : ∀ p ∈ rest, p.1 ≠ I := fun p hp => hne p (List.mem_cons_of_mem _ (List.mem_cons_of_mem _ hp))
    clear hne hlt
    refine k9 ?_
    clear k9
    refine setFN F2 N2 ?_
    intro m3 n3 F3 N3
    clear F2 N2
    k_steps
    rename_i k9 _ _ hk1 hk2 _ _ _ _ _ _ _ _ _ _ ww _ _ hw _ _ _ _ _ _ _ _ _ _ _ _ _ _ _ _ _ _ _ _ _ _ _ _ _ _ _ _ _ _ _ _ _ _ _ _ _ _ _ _ _ _ _ _ _ _ _ rc _ hc _ _ _ _ _ _ _ _ _ _ _ _ _ _ _ _ _ _ _ _ _ _ _ _ _ _ _ _ _ _ _ _ _ _ _ _ _ rv _ hv _ _ _ _ _ _ _ _ _ _ _ _ _ wk _ o8 hkk hs8 n8 _ _ _ _ _ F8 N8
    refine hideG fun X9 kX => ?_
    have hC : ∃ nc its cw t5, (rc, tupOf (List.toArray its) nc) ∈ n8 ∧ its[0]? = some (.str cw t5) ∧ (cw == Str.ofString "call") = false ∧ ((cw == Str.ofString "name") = true → ∃ t7, its[2]? = some (.str ww t7)) := by
      rcases mem3 hc with h | h | h
      · exact ⟨_, [_, _, _], _, _, mem_ref h (by k_mem), rfl, by decide, fun _ => ⟨_, rfl⟩⟩
      · exact ⟨_, [_, _, _], _, _, mem_ref h (by k_mem), rfl, by decide, fun _ => ⟨_, rfl⟩⟩
      · exact ⟨_, [_, _, _, _], _, _, mem_ref h (by k_mem), rfl, by decide, fun h => absurd h (by decide)⟩
    have hV : .ref rv = Value.ref rc ∨ (∃ De nv ta tb, (rv, tupOf #[.str (Str.ofString "call") ta, .int (4 + k9) tb, .ref rc, .ref De, .bool false] nv) ∈ n8) := by
      rcases mem3 hv with h | h | h
      · exact .inr ⟨_, _, _, _, mem_ref h (by k_mem)⟩
      · exact .inr ⟨_, _, _, _, mem_ref h (by k_mem)⟩
      · exact .inl h
    have hb9 : ∀ q1 q2 q3 q4, ([Value.int 5 q1, .int 7 q2, .int (5 + kA) q3].any fun y => simEq y (.int (4 + k9) q4)) = [5, 7, 5 + kA].any fun x => x == 4 + k9 := fun _ _ _ _ => rfl
    have sub : ∀ p ∈ (I, oI) :: (lA, ol) :: (sp, o8) :: rest, p ∈ n8 := by k_slotset
    clear hc hv hw hkk
    have hneI : ∀ o1 o2, ∀ p ∈ (lA, o1) :: (sp, o2) :: rest, p.1 ≠ I := fun o1 o2 => allCons9 b2 (allCons9 b1 b4)
    obtain ⟨nc, its, cw, t5, NC, hi0, hic, hi2⟩ := hC
    rcases hV with hV | ⟨De, nv, tc, td, NV⟩
    · --[P
      refine kX ?_
      refine setFN (news := (rv, tupOf its.toArray nc) :: (rc, tupOf its.toArray nc) :: (I, oI) :: (lA, ol) :: (sp, o8) :: rest) F8 (N8.perm (allCons9 (mem_ref hV NC) (allCons9 NC sub))) ?_
      intro m3 n3 F3 N3
      clear F8 N8 kX sub NC
      k_steps
      all_goals first
        | exact TurnEnd.of (nw := (lA, ol) :: (sp, o8) :: rest) (by assumption) (by assumption) (by k_slotset) (hneI _ _) ⟨rfl, rfl, o8, hs8, rfl⟩
        | (exfalso; first | exact pc1 (by assumption) (by assumption) | exact pc2 (by assumption) (by assumption) | exact pd3 (by assumption) (by assumption) | exact pd4 (by assumption) (by assumption) (by assumption) (by assumption) (by assumption) | exact pd5 (by assumption) (by assumption) | exact pd6 (by assumption) (by assumption) | exact pd7 (by assumption) (by assumption))
      --]P
    · --[Q
      refine kX ?_
      refine setFN (news := (rv, _) :: (rc, tupOf its.toArray nc) :: (I, oI) :: (lA, ol) :: (sp, o8) :: rest) F8 (N8.perm (allCons9 NV (allCons9 NC sub))) ?_
      intro m3 n3 F3 N3
      clear F8 N8 kX sub NC NV
      k_steps
      all_goals first
        | exact TurnEnd.of (nw := (lA, ol) :: (sp, o8) :: rest) (by assumption) (by assumption) (by k_slotset) (hneI _ _) ⟨rfl, rfl, o8, hs8, rfl⟩
        | (exfalso; first | exact pc1 (by assumption) (by assumption) | exact pc2 (by assumption) (by assumption) | exact pd3 (by assumption) (by assumption) | exact pd4 (by assumption) (by assumption) (by assumption) (by assumption) (by assumption) | exact pd5 (by assumption) (by assumption) | exact pd6 (by assumption) (by assumption) | exact pd7 (by assumption) (by assumption))
      --]Q
  case done =>
    intro m₁ nw h tk hJ F2 N2
    refine hideG fun X9 k9 => ?_
    obtain ⟨hm1, hm2, o', hS', rfl⟩ := hJ
    refine k9 ?_
    k_steps
    exact hq _ _ _ _ _ (by assumption) (by assumption) (hR _ fun p hp => List.mem_cons_of_mem _ (List.mem_cons_of_mem _ hp))

theorem fresh_Read : True := by
  w_top off
  exact trivial
section
inductive RdOK (news : Ledger) (c1 c2 op to le : Addr) (steps : List Step) (i : Nat) (m : Str → Option Value) : Ledger → Prop
  | mk (oc1 oc2 : Obj) (v1 v2 : Option Value) (xo : List Value) (eo : Nat) (xt : List Value) (et : Nat) (xl : List Value) (el : Nat) (tl : Ledger) (opened : List (Kd × Lab × Value)) (told : List (Lab × Nat × Value)) (led : List Lab)
      (hc1 : oc1.data = .cell v1) (hc2 : oc2.data = .cell v2) (hO : All2 (OpIn (tl ++ news)) xo opened) (hT : All2 (ToIn (tl ++ news)) xt told) (hL : All2 LeIn xl led) (bo : opened.length ≤ i) (bt : told.length ≤ i) (bl : led.length ≤ i) (hfi : Fine opened.length (steps.drop i))
      (hrd : readGo 0 steps [] [] [] = readGo i (steps.drop i) (opened.map fun x => (x.1, x.2.1)).reverse (told.map fun x => (x.1, x.2.1)) led) (htl : ∀ q ∈ tl, @LT.lt Nat _ le q.1)
      (hm1 : m (Str.ofString "opened") = some (.ref op)) (hm2 : m (Str.ofString "told") = some (.ref to)) (hm3 : m (Str.ofString "led") = some (.ref le)) :
      RdOK news c1 c2 op to le steps i m ((c1, oc1) :: (c2, oc2) :: (op, listOf xo.toArray eo) :: (to, listOf xt.toArray et) :: (le, listOf xl.toArray el) :: (tl ++ news))
theorem RdOK.mkR {news R tl : Ledger} {c1 c2 op to le : Addr} {steps : List Step} {i : Nat} {m : Str → Option Value} (hRd : tl ++ news = R) (X : Ledger) {oc1 oc2 : Obj} {v1 v2 : Option Value} {xo : List Value} {eo : Nat} {xt : List Value} {et : Nat} {xl : List Value} {el : Nat} {opened : List (Kd × Lab × Value)} {told : List (Lab × Nat × Value)} {led : List Lab}
    (hc1 : oc1.data = .cell v1) (hc2 : oc2.data = .cell v2) (hO : All2 (OpIn (X ++ R)) xo opened) (hT : All2 (ToIn (X ++ R)) xt told) (hL : All2 LeIn xl led) (bo : opened.length ≤ i) (bt : told.length ≤ i) (bl : led.length ≤ i) (hfi : Fine opened.length (steps.drop i))
    (hrd : readGo 0 steps [] [] [] = readGo i (steps.drop i) (opened.map fun x => (x.1, x.2.1)).reverse (told.map fun x => (x.1, x.2.1)) led) (htl : ∀ q ∈ X ++ tl, @LT.lt Nat _ le q.1)
    (hm1 : m (Str.ofString "opened") = some (.ref op)) (hm2 : m (Str.ofString "told") = some (.ref to)) (hm3 : m (Str.ofString "led") = some (.ref le)) :
    RdOK news c1 c2 op to le steps i m ((c1, oc1) :: (c2, oc2) :: (op, listOf xo.toArray eo) :: (to, listOf xt.toArray et) :: (le, listOf xl.toArray el) :: (X ++ R)) := by
  subst hRd
  rw [← List.append_assoc] at hO hT ⊢
  exact RdOK.mk oc1 oc2 v1 v2 xo eo xt et xl el (X ++ tl) opened told led hc1 hc2 hO hT hL bo bt bl hfi hrd htl hm1 hm2 hm3
theorem rd_retR {news tl R : Ledger} {steps : List Step} {c D to le : Addr} {k et el : Nat} {vf : Value} {xt xl : List Value} {told : List (Lab × Nat × Value)} {led : List Lab} {fault : Option Nat} (hRd : tl ++ news = R) (lnw : ∀ p ∈ news, @LT.lt Nat _ p.1 c) (h1 : @LT.lt Nat _ c D) (h2 : @LT.lt Nat _ c to) (h3 : @LT.lt Nat _ c le)
    (htl : ∀ q ∈ tl, @LT.lt Nat _ le q.1) (hT : All2 (ToIn R) xt told) (hL : All2 LeIn xl led) (bt : told.length ≤ 20) (bl : led.length ≤ 20) (hr : readGo 0 steps [] [] [] = (fault, told.map (fun x => (x.1, x.2.1)), led)) (hv : FaultV fault vf) :
    RdPost news steps (.ref D) ((D, tupOf #[vf, .ref to, .ref le] k) :: (to, listOf xt.toArray et) :: (le, listOf xl.toArray el) :: R) := by
  subst hRd
  exact rd_ret lnw h1 h2 h3 htl hT hL bt bl hr hv
theorem rd_drop {steps : List Step} {i : Nat} {s : Step} (h : steps[i]? = some s) : steps.drop i = s :: steps.drop (i + 1) := by
  obtain ⟨hl, he⟩ := List.getElem?_eq_some_iff.mp h
  rw [List.drop_eq_getElem_cons hl, he]
theorem TurnEnd2.ret {h₀ : Heap} {L : Addr} {its : Ledger} {Jn : (Str → Option Value) → Ledger → Prop} {s : Shared} {Q : Flow → Shared → Prop} {s' : Shared} {v : Value} (h : Q (.ret v) s') : TurnEnd2 h₀ L its Jn s Q (.ret v) s' := h
theorem ex_cut {M : Model} {A : Around} {E : Value → Shared → Prop} {st : Stmt} {rest : List Stmt} {env : Env} {Q : Flow → Shared → Prop} {g : Heap} {L : Addr} {h : Heap} {g9 : Array GenState} {d9 : Drawn} {tk : Nat} {o9 : OsState} (P : (Str → Option Value) → Ledger → Prop) (h1 : wpAny M A (exec st env) (CutPost g L ⟨h, g9, d9, tk, o9⟩ P) E ⟨h, g9, d9, tk, o9⟩)
    (h2 : ∀ h' tk' m nw, P m nw → Fr g L h' m → News g L h' nw → wpAny M A (execs rest env) Q E ⟨h', g9, d9, tk', o9⟩) : wpAny M A (execs (st :: rest) env) Q E ⟨h, g9, d9, tk, o9⟩ := wpAny_execs_cons (exec_cut P h1 fun h' tk m nw hP F N => h2 h' tk m nw hP F N)
/-- what stands behind «kinds = ..» -/
inductive KindsP (c2 : Addr) (brk : Bool) (m : Str → Option Value) (X : Ledger) : (Str → Option Value) → Ledger → Prop
  | mk {dK : Addr} {ks : List Value} {nk : Nat} {oK : Obj} : oK.data = .cell (some (.ref dK)) → (∀ y ∈ ks, Simple y) → (∀ k t, ks.any (fun y => simEq y (.str (Kd.word k) t)) = kindOK brk k) → (∀ p ∈ X, @LT.lt Nat _ p.1 dK) → KindsP c2 brk m X m ((dK, listOf ks.toArray nk) :: (c2, oK) :: X)
theorem park {P : Prop} (h : P) : Parked P := h
theorem lab_pv (x l : Lab) : ((x == l) && (x != .u)) = (x == l && l != .u) := by cases x <;> cases l <;> rfl
theorem tells_any {l : Lab} {lv : Value} (h : LabV l lv) (t : Tok) : (![Value.none, .str (Str.ofString "_") t].any (fun y => simEq y lv)) = l.tells := by
  simp only [List.any_cons, List.any_nil, Bool.or_false, simEq_lab .no h, simEq_lab .u h]
  cases l <;> rfl
local macro_rules | `(tactic| walk_at "execs cons Assign") => `(tactic| (k_here; (with_reducible rename ParkHere => pk9); (with_reducible show wpAny _ _ (execs (Stmt.Assign _ (PySem.Expr.BinOp _ _ _ _) _ :: _) _) _ _ _); k_dflt (refine unpark ?_)))
set_option maxRecDepth 100000 in
set_option maxHeartbeats 0 in
theorem read {w : World} {lst : Addr} {vs : List Value} {steps : List Step} {n : Nat} {news : Ledger} (hl : (lst, listOf vs.toArray n) ∈ news) (hs : StepsIn news vs steps) (hf : Fine 0 steps) (hz : steps.length ≤ 20) :
    Con w 155 4 60 [.ref lst] news (fun K => ∀ r n', RdPost news steps r n' → K r n') := by
  refine' con_enter2 (x1 := Str.ofString "step") (x2 := Str.ofString "kinds") ?ho ?hcd ?hb ?hl ?hf ?hd ?hc ?hn ?_
  case ho => k_is
  case hcd => k_is
  case hb => exact fun _ => BindsTo.of_eq rfl
  case hl => exact rfl
  case hf => exact rfl
  case hd => decide +kernel
  case hc => exact fun _ => rfl
  case hn => exact fun _ => ⟨rfl, rfl⟩
  intro p loose mean mg mb dp u gd outer A base g L h g9 d9 tk o9 K Q os ok B X T hd hu hR hq ds dk lL e9 a9 m9 n9 F N
  k_steps
  rename_i op _ _ _ _ ltB to _ _ _ _ ltC le _ _ _ _ ltD D9 _ n4 _ _ _ _ _ _ _ _ _ _ _ _ _ e it _ he hit l1 l2 l3 n1 n2 F1 N1
  have o1 : @LT.lt Nat _ (L + 1) (L + 1 + 1) := Nat.lt_succ_self _
  have o2 : @LT.lt Nat _ (L + 1) op := by k_ne
  have o3 : @LT.lt Nat _ (L + 1 + 1) op := by k_ne
  have o4 : @LT.lt Nat _ op to := by k_ne
  have o5 : @LT.lt Nat _ to le := by k_ne
  have o6 : @LT.lt Nat _ (L + 1) to := Nat.lt_trans o2 o4
  have o7 : @LT.lt Nat _ (L + 1) le := Nat.lt_trans o6 o5
  have lnw : ∀ p ∈ news, @LT.lt Nat _ p.1 (L + 1) := fun p hp => Nat.lt_succ_of_lt (lL p hp)
  refine EnumAt.of (l := lst) (vs := vs) (n := n) (nw₀ := (L + 1, os) :: (L + 1 + 1, ok) :: (op, listOf #[] 0) :: (to, listOf #[] 0) :: (le, listOf #[] 0) :: ([] ++ news)) (J := RdOK news (L + 1) (L + 1 + 1) op to le steps) he hit n1 n2 ?_ ?_ ?_ F1 ?_ ?_ ?_ ?_ ?_ ?_
  · exact Nat.ne_of_gt l1
  · exact Nat.ne_of_lt (Nat.lt_trans l3 l1)
  · exact Nat.ne_of_lt l3
  · exact N1.perm (by k_slotset)
  · intro p hp
    have h1 : p.1 < it := ltSub l2 (by k_slotset) p hp
    exact ⟨Nat.ne_of_lt (Nat.lt_trans h1 l1), Nat.ne_of_lt h1⟩
  · exact ⟨os, ok, _, _, [], 0, [], 0, [], 0, [], [], [], [], ds, dk, .nil, .nil, .nil, Nat.le_refl _, Nat.le_refl _, Nat.le_refl _, hf, rfl, fun _ h => (nomatch h), rfl, rfl, rfl⟩
  · rintro i m nw ⟨_, _, _, _, _, _, _, _, _, _, tl, _, _, _⟩
    simp only [List.mem_cons, List.mem_append]
    exact .inr (.inr (.inr (.inr (.inr (.inr hl)))))
  · clear l2 l1 l3 n1 n2 he hit F1 N1 ds dk ltB ltC ltD
    intro i v m₁ nw h tk T ti oe oi hv hJ hne heT hiT F₂ N₂
    refine hideG fun X9 k9 => ?_
    obtain ⟨oc1, oc2, v1, v2, xo, eo, xt, et, xl, el, tl, opened, told, led, hc1, hc2, hO, hT, hL, bo, bt, bl, hfi, hrd, htl, hm1, hm2, hm3⟩ := hJ
    have hlt : i < vs.length := (List.getElem?_eq_some_iff.mp hv).1
    obtain ⟨s₁, hs₁⟩ : ∃ s₁, steps[i]? = some s₁ := ⟨steps[i]'(by rw [← hs.1]; exact hlt), List.getElem?_eq_getElem _⟩
    have hst := hs.2 i v s₁ hv hs₁
    have hi20 : i < 20 := Nat.lt_of_lt_of_le (hs.1 ▸ hlt) hz
    rw [rd_drop hs₁] at hrd hfi
    have lO : xo.length ≤ 1000 := Nat.le_trans (hO.length ▸ Nat.le_trans bo (Nat.le_of_lt hi20)) (by decide)
    have lT : xt.length ≤ 1000 := Nat.le_trans (hT.length ▸ Nat.le_trans bt (Nat.le_of_lt hi20)) (by decide)
    have lLe : xl.length ≤ 1000 := Nat.le_trans (hL.length ▸ Nat.le_trans bl (Nat.le_of_lt hi20)) (by decide)
    obtain ⟨a1, a2, a3⟩ := hne (op, listOf xo.toArray eo) (by k_slotget)
    obtain ⟨b1, b2, b3⟩ := hne (to, listOf xt.toArray et) (by k_slotget)
    obtain ⟨c1, c2, c3⟩ := hne (le, listOf xl.toArray el) (by k_slotget)
    obtain ⟨d1, d2, d3⟩ := hne (L + 1, oc1) (by k_slotget)
    obtain ⟨f1, f2, f3⟩ := hne (L + 1 + 1, oc2) (by k_slotget)
    replace a1 := neN a1; replace a2 := neN a2; replace a3 := ltN a3
    replace b1 := neN b1; replace b2 := neN b2; replace b3 := ltN b3
    replace c1 := neN c1; replace c2 := neN c2; replace c3 := ltN c3
    replace d1 := neN d1; replace d2 := neN d2; replace d3 := ltN d3
    replace f1 := neN f1; replace f2 := neN f2; replace f3 := ltN f3
    replace heT := ltN heT; replace hiT := ltN hiT
    dsimp only at a1 a2 a3 b1 b2 b3 c1 c2 c3 d1 d2 d3 f1 f2 f3
    obtain ⟨⟨q1, q2, q4, q6⟩, ⟨q3, q5, q7⟩, ⟨q8, q9⟩, q10⟩ := six_ne o1 o3 o4 o5
    replace F₂ := frSet3 F₂ hm1 hm2 hm3
    obtain ⟨r1, r2, r3, r4, r5⟩ := six_off o1 o3 o4 o5 lnw htl
    have r0 : ∀ p ∈ tl ++ news, p.1 ≠ e ∧ p.1 ≠ it := fun p hp => have h9 := hne p (by k_slotget); ⟨h9.1, h9.2.1⟩
    generalize hRd : tl ++ news = R at N₂ hO hT r0 r1 r2 r3 r4 r5
    clear hne
    cases hst with
    | @fin sa nn t1 hmem =>
      --[F
      have hmR : _ ∈ R := hRd ▸ List.mem_append_right _ hmem
      rcases List.eq_nil_or_concat opened with rfl | ⟨op', x, rfl⟩
      · exact hfi.elim
      simp only [List.concat_eq_append] at *
      obtain ⟨xo', vv, rfl, hO', hx⟩ := hO.unsnoc
      have lO' : xo'.length ≤ 1000 := len_unapp lO
      refine k9 ?_
      refine setFN F₂ N₂ ?_
      intro m3 n3 F3 N3
      clear F₂ N₂ k9
      k_steps
      rename_i o9 d9 _ _ _ _ F9 N9
      refine TurnEnd2.of (nw := (L + 1, o9) :: (L + 1 + 1, oc2) :: (op, listOf xo'.toArray (eo + 1)) :: (to, listOf xt.toArray et) :: (le, listOf xl.toArray el) :: ([] ++ R)) F9 N9 (its2 (by k_slotset)) (rd_ne d1 d2 f1 f2 a1 a2 b1 b2 c1 c2 r0 (fun _ h => nomatch h)) (RdOK.mkR (opened := op') (told := told) (led := led) hRd [] d9 hc2 hO' hT hL (Nat.le_succ_of_le (len_unapp bo)) (Nat.le_succ_of_le bt) (Nat.le_succ_of_le bl) ?_ ?_ htl rfl rfl rfl)
      · rw [List.length_append] at hfi; exact hfi
      · rw [hrd]; simp [readGo]
      --]F
    | @beg sa k l lv nn t1 t2 hmem hlab =>
      --[B
      have hmR : _ ∈ R := hRd ▸ List.mem_append_right _ hmem
      refine k9 ?_
      refine setFN F₂ N₂ ?_
      intro m3 n3 F3 N3
      clear F₂ N₂ k9
      have hsL := hlab.simple
      have hnot : ∀ t, (![Value.none, .str (Str.ofString "_") t].any (fun y => simEq y lv)) = l.tells := tells_any hlab
      have hsim := ToIn.simple hT
      have hin := ToIn.has hlab hT
      k_steps
      · --first: a label to be told
        refine CompOver.list (l := to) (vs := xt) (xs := told) (n := et) (RR := ToIn R) (p := fun _ => true) (g := fun x => x.2.2) rfl (by assumption) (by assumption) (by lge_bears) (Nat.le_trans lT (by decide)) hT ?_ ?_
        · rintro v x - ⟨a, n, t, rfl, ha, hx, ht⟩
          exact ⟨_, .name rfl, CompTurn.ev0 (by
            intro C s oC m₂ I oI D oD hC hb n9 F N
            have hb0 := hb _ (List.mem_singleton_self _)
            walk_at "pe")⟩
        · intro D h' tk n' lt F N
          refine setFN F N ?_
          intro m4 n4 F4 N4
          clear F N
          rename l.tells = true => hlt'
          k_steps
          · rename_i Da _ _ _ _ Fa Na la
            rename List.contains _ _ = true => hc
            exact TurnEnd2.ret (thn_ret (hq _ ((Da, tupOf #[.int i ti, .ref to, .ref le] 0) :: (to, listOf xt.toArray et) :: (le, listOf xl.toArray el) :: R) _ _ _ Fa (Na.perm (by k_slotset)) (hR _ _
              (rd_retR hRd (c := L + 1) (fault := some i) lnw (by k_ne) o6 o7 htl hT hL (Nat.le_trans bt (Nat.le_of_lt hi20)) (Nat.le_trans bl (Nat.le_of_lt hi20)) (by rw [hrd, rg_beg1 hlt' hc]) ⟨ti, rfl⟩))))
          · rename_i Da _ _ _ _ la _ _ Db _ _ _ _ lb _ _ Fa Na
            rename List.contains _ _ = false => hc
            rename _ = Data.cell (some (Value.ref sa)) => d9
            have hsub : ∀ p ∈ R, p ∈ [(Db, tupOf #[.str k.word t2, lv] 0), (Da, tupOf #[lv, .int (i : Int) ti] 0)] ++ R := fun p hp => List.mem_append_right _ hp
            have hDa : @LT.lt Nat _ le Da := by k_ne
            have hDb : @LT.lt Nat _ le Db := by k_ne
            refine TurnEnd2.of (nw := (L + 1, _) :: (L + 1 + 1, oc2) :: (op, listOf (xo ++ [Value.ref Db]).toArray (eo + 1)) :: (to, listOf (xt ++ [Value.ref Da]).toArray (et + 1)) :: (le, listOf xl.toArray el) :: ([(Db, tupOf #[.str k.word t2, lv] 0), (Da, tupOf #[lv, .int (i : Int) ti] 0)] ++ R)) Fa Na ?_ (rd_ne d1 d2 f1 f2 a1 a2 b1 b2 c1 c2 r0 (allCons9 ⟨by k_ne, by k_ne⟩ (allCons9 ⟨by k_ne, by k_ne⟩ allNil9)))
              (RdOK.mkR (opened := opened ++ [(k, l, lv)]) (told := told ++ [(l, i, lv)]) (led := led) hRd [(Db, tupOf #[.str k.word t2, lv] 0), (Da, tupOf #[lv, .int (i : Int) ti] 0)] d9 hc2 ((hO.imp (OpIn.mono hsub)).append (.cons ⟨Db, 0, t2, rfl, List.mem_cons_self, hlab⟩ .nil)) ((hT.imp (ToIn.mono hsub)).append (.cons ⟨Da, 0, ti, rfl, List.mem_cons_of_mem _ List.mem_cons_self, hlab, hlt'⟩ .nil)) hL (len_app1 bo) (len_app1 bt) (Nat.le_succ_of_le bl) ?_ ?_ (allCons9 hDb (allCons9 hDa htl)) rfl rfl rfl)
            · exact its2 (by k_slotset)
            · rw [List.length_append]; exact fine_beg hfi
            · rw [hrd, rg_beg2 hlt' hc]; simp
      · rename_i Db _ _ _ _ lb _ _ Fa Na
        rename l.tells = false => hlt'
        rename _ = Data.cell (some (Value.ref sa)) => d9
        have hsub : ∀ p ∈ R, p ∈ [(Db, tupOf #[.str k.word t2, lv] 0)] ++ R := fun p hp => List.mem_append_right _ hp
        have hDb : @LT.lt Nat _ le Db := by k_ne
        refine TurnEnd2.of (nw := (L + 1, _) :: (L + 1 + 1, oc2) :: (op, listOf (xo ++ [Value.ref Db]).toArray (eo + 1)) :: (to, listOf xt.toArray et) :: (le, listOf xl.toArray el) :: ([(Db, tupOf #[.str k.word t2, lv] 0)] ++ R)) Fa Na ?_ (rd_ne d1 d2 f1 f2 a1 a2 b1 b2 c1 c2 r0 (allCons9 ⟨by k_ne, by k_ne⟩ allNil9))
          (RdOK.mkR (opened := opened ++ [(k, l, lv)]) (told := told) (led := led) hRd [(Db, tupOf #[.str k.word t2, lv] 0)] d9 hc2 ((hO.imp (OpIn.mono hsub)).append (.cons ⟨Db, 0, t2, rfl, List.mem_cons_self, hlab⟩ .nil)) (hT.imp (ToIn.mono hsub)) hL (len_app1 bo) (Nat.le_succ_of_le bt) (Nat.le_succ_of_le bl) ?_ ?_ (allCons9 hDb htl) rfl rfl rfl)
        · exact its2 (by k_slotset)
        · rw [List.length_append]; exact fine_beg hfi
        · rw [hrd, rg_beg3 hlt']; simp
      --]B
    | @lead sa brk l lv nn t1 t2 hmem hlab =>
      --[L
      have hmR : _ ∈ R := hRd ▸ List.mem_append_right _ hmem
      refine k9 ?_
      have hsL := hlab.simple
      refine setFN F₂ N₂ ?_
      intro m3 n3 F3 N3
      clear F₂ N₂ k9
      have pk : ParkHere := ⟨⟩
      k_steps
      rename_i pk9 _ _ _ mA _ _ o9 d9 nA _ FA NA
      clear pk9
      refine park ?_
      refine ex_cut (g := g) (L := L) (KindsP (L + 1 + 1) brk mA ((e, oe) :: (it, oi) :: (L + 1, o9) :: (op, listOf xo.toArray eo) :: (to, listOf xt.toArray et) :: (le, listOf xl.toArray el) :: R)) ?_ ?_
      ·
        --[M
        cases brk <;> k_steps
        all_goals
          rename_i dK _ lK oK dd _ _ FK NK
          exact split_end FK (NK.perm (by k_slotset)) (.mk dd (by first | exact sim_cons trivial (sim_cons trivial sim_nil) | exact sim_cons trivial (sim_cons trivial (sim_cons trivial (sim_cons trivial (sim_cons trivial sim_nil))))) (by intro k t; first | exact kinds_b k | exact kinds_c k) (by exact ltSub lK (by k_slotset)))
        --]M
      ·
        --[N
        intro h' tk' m nw hP F N
        refine hideG fun X9 k9 => ?_
        obtain ⟨hK, hsK, hkK, lK⟩ := hP
        refine k9 ?_
        refine setFN F N ?_
        intro m4 n4 F4 N4
        clear F N k9
        k_steps
        refine CompOver.list (l := op) (vs := xo) (xs := opened) (n := eo) (RR := OpIn R) (p := fun (x : Kd × Lab × Value) => kindOK brk x.1) (g := fun (x : Kd × Lab × Value) => x.2.2) rfl (by assumption) (by assumption) (by lge_bears) (Nat.le_trans lO (by decide)) hO ?_ ?_
        · rintro v x - ⟨a, n, t, rfl, ha, hx⟩
          exact ⟨_, .pair (by lge_bears) rfl rfl (by decide), CompTurn.ev1 rfl (by
            intro C s oC m₂ I oI D oD hC hb n9 F N
            have hb0 := hb (Str.ofString "kind", _) List.mem_cons_self
            have hb1 := hb (Str.ofString "label", _) (List.mem_cons_of_mem _ List.mem_cons_self)
            exact ⟨by walk_at "pe", by walk_at "pe"⟩)⟩
        · intro D h' tk n' lt F0 N0 h'' tk' F N
          clear F0 N0
          refine setFN F N ?_
          intro m5 n5 F5 N5
          clear F N
          k_steps
          ·
            --[O
            rename (l != Lab.no) = true => hno'
            have hno : l ≠ .no := by simpa using hno'
            refine CompOver.list (l := D) (n := n') (RR := (fun v (x : Lab × Value) => v = x.2 ∧ LabV x.1 x.2)) (p := fun (x : Lab × Value) => x.1 == l && l != .u) (g := fun (x : Lab × Value) => x.2) rfl (by assumption) (by assumption) (by lge_bears) ?_ (labs_of hO) ?_ ?_
            · rw [List.length_map]
              exact Nat.le_trans (List.length_filter_le _ _) (Nat.le_trans (Nat.le_of_eq hO.length.symm) (Nat.le_trans lO (by decide)))
            · rintro v ⟨x1, x2⟩ - ⟨rfl, hx⟩
              exact ⟨_, .name rfl, CompTurn.ev1 (lab_pv x1 l) (by
                intro C s oC m₂ I oI D oD hC hb n9 F N
                have hb0 := hb _ (List.mem_singleton_self _)
                exact ⟨by walk_at "pe", by walk_at "pe"⟩)⟩
            · intro D2 h2 tk2 n2 lt2 F0 N0 h3 tk3 F N
              clear F0 N0
              have hemp := hits_2 brk l hno opened
              refine setFN F N ?_
              intro m6 n6 F6 N6
              clear F N
              k_steps
              · rename_i _ _ _ _ _ Fa Na la hh
                exact TurnEnd2.of (nw := (L + 1, o9) :: (L + 1 + 1, _) :: (op, listOf xo.toArray eo) :: (to, listOf xt.toArray et) :: (le, listOf (xl ++ [lv]).toArray (el + 1)) :: ([] ++ R)) Fa Na (its2 (by k_slotset)) (rd_ne d1 d2 f1 f2 a1 a2 b1 b2 c1 c2 r0 (fun _ h => nomatch h)) (RdOK.mkR (opened := opened) (told := told) (led := led ++ [l]) hRd [] d9 hK hO hT ((hL.append (.cons ⟨hlab, hno⟩ .nil))) (Nat.le_succ_of_le bo) (Nat.le_succ_of_le bt) (len_app1 bl) (fine_lead hfi) (by rw [hrd, rg_lead1 hh]; simp [hno]) htl rfl rfl rfl)
              · rename_i hh Da _ _ _ _ Fa Na la
                exact TurnEnd2.ret (thn_ret (hq _ ((Da, tupOf #[.int i ti, .ref to, .ref le] 0) :: (to, listOf xt.toArray et) :: (le, listOf (xl ++ [lv]).toArray (el + 1)) :: R) _ _ _ Fa (Na.perm (by k_slotset)) (hR _ _
                  (rd_retR hRd (c := L + 1) (fault := some i) lnw (by k_ne) o6 o7 htl hT (hL.append (.cons ⟨hlab, hno⟩ .nil)) (Nat.le_trans bt (Nat.le_of_lt hi20)) (Nat.le_trans (len_app1 bl) hi20) (by rw [hrd, rg_lead2 hh]; simp [hno]) ⟨ti, rfl⟩))))
            --]O
          ·
            --[P
            rename (l != Lab.no) = false => hno'
            rename List.isEmpty _ = true => hE
            have hno : l = .no := by simpa using hno'
            have hh : hits brk l (opened.map fun x => (x.1, x.2.1)).reverse = false := by rw [hits_1, Bool.not_eq_true'] at hE; rw [hno]; exact hE
            rename_i Da _ _ _ _ Fa Na la
            exact TurnEnd2.ret (thn_ret (hq _ ((Da, tupOf #[.int i ti, .ref to, .ref le] 0) :: (to, listOf xt.toArray et) :: (le, listOf xl.toArray el) :: R) _ _ _ Fa (Na.perm (by k_slotset)) (hR _ _
              (rd_retR hRd (c := L + 1) (fault := some i) lnw (by k_ne) o6 o7 htl hT hL (Nat.le_trans bt (Nat.le_of_lt hi20)) (Nat.le_trans bl (Nat.le_of_lt hi20)) (by rw [hrd, rg_lead2 hh]; simp [hno]) ⟨ti, rfl⟩))))
            --]P
          ·
            --[Q
            rename (l != Lab.no) = false => hno'
            rename List.isEmpty _ = false => hE
            have hno : l = .no := by simpa using hno'
            have hh : hits brk l (opened.map fun x => (x.1, x.2.1)).reverse = true := by rw [hits_1, Bool.not_eq_false'] at hE; rw [hno]; exact hE
            rename_i _ _ _ _ _ Fa Na la
            exact TurnEnd2.of (nw := (L + 1, o9) :: (L + 1 + 1, _) :: (op, listOf xo.toArray eo) :: (to, listOf xt.toArray et) :: (le, listOf xl.toArray el) :: ([] ++ R)) Fa Na (its2 (by k_slotset)) (rd_ne d1 d2 f1 f2 a1 a2 b1 b2 c1 c2 r0 (fun _ h => nomatch h)) (RdOK.mkR (opened := opened) (told := told) (led := led) hRd [] d9 hK hO hT hL (Nat.le_succ_of_le bo) (Nat.le_succ_of_le bt) (Nat.le_succ_of_le bl) (fine_lead hfi) (by rw [hrd, rg_lead1 hh]; simp [hno]) htl rfl rfl rfl)
            --]Q
        --]N
      --]L
  ·
    --[D
    intro m₁ nw h tk hJ F₂ N₂
    refine hideG fun X9 k9 => ?_
    obtain ⟨oc1, oc2, v1, v2, xo, eo, xt, et, xl, el, tl, opened, told, led, hc1, hc2, hO, hT, hL, bo, bt, bl, hfi, hrd, htl, hm1, hm2, hm3⟩ := hJ
    replace F₂ := frSet3 F₂ hm1 hm2 hm3
    have hlen := hs.1
    generalize hRd : tl ++ news = R at N₂ hT
    refine k9 ?_
    refine setFN F₂ N₂ ?_
    intro m3 n3 F3 N3
    clear F₂ N₂ k9 F1 N1
    k_steps
    rename_i Da _ _ _ _ Fa Na la
    rw [List.drop_of_length_le (Nat.le_of_eq hlen.symm)] at hrd
    have hi20 : vs.length ≤ 20 := hlen ▸ hz
    exact hq _ ((Da, tupOf #[.none, .ref to, .ref le] 0) :: (to, listOf xt.toArray et) :: (le, listOf xl.toArray el) :: R) _ _ _ Fa (Na.perm (by k_slotset)) (hR _ _ (rd_retR hRd (c := L + 1) (fault := none) lnw (by k_ne) o6 o7 htl hT hL (Nat.le_trans bt hi20) (Nat.le_trans bl hi20) (by rw [hrd]; simp [readGo]) rfl))
    --]D

end
theorem fresh_FaultDef : True := by
  w_top off
  exact trivial
theorem weaken {α : Type} {M : Model} {A A' : Around} {t : Sem α} {Q : α → Shared → Prop} {E : Value → Shared → Prop} {s : Shared} (h : wpAny M A' t Q E s) (h1 : A.handled = A'.handled) (h2 : A.depth ≤ A'.depth) (h3 : A'.frames = A.frames) (h4 : A'.guards = A.guards) (h5 : A.units ≤ A'.units) : wpAny M A t Q E s :=
  fun Γ p hΓ => h Γ p ⟨hΓ.1.trans h1, Nat.le_trans hΓ.2.1 h2, fun l hl => hΓ.2.2.1 l (h3 ▸ hl), fun g hg => hΓ.2.2.2.1 g (h4 ▸ hg), Nat.le_trans hΓ.2.2.2.2 h5⟩
theorem x_keep {h₀ h : Heap} {news : Ledger} (D : PySem.W.X.Mem h₀ h [] news) : ∀ b o, h₀.get? b = some o → h.get? b = some o := fun b o e => D.keep b o e (by simp [PySem.W.X.away])
theorem x_at {h₀ h : Heap} {news : Ledger} {a : Addr} {o : Obj} (D : PySem.W.X.Mem h₀ h [] news) (hm : (a, o) ∈ news) : h.get? a = some o ∧ h₀.get? a = none := D.nw _ hm
/-- what a call of FlowFault makes: the exception `e`, its args `t`, its dict `d`, in which the spot stands -/
noncomputable def FaultQ (h₀ : Heap) (s : Shared) (spot : Value) (v : Value) (s' : Shared) : Prop :=
  ∃ (e t d : Addr) (ot od : Obj) (h' : Heap) (tk : Nat), v = .ref e ∧ s' = { s with heap := h', toks := tk } ∧ (∀ b o, h₀.get? b = some o → h'.get? b = some o) ∧
    (h'.get? e = some { cls := .ref 45, dict := some d, data := .fields #[.ref t, .none, .none, .none, .bool false, .none] } ∧ h₀.get? e = none) ∧ (h'.get? t = some ot ∧ h₀.get? t = none) ∧ (h'.get? d = some od ∧ h₀.get? d = none) ∧
    lookIn (Str.ofString "spot") od = some (some spot) ∧ (∃ es k, od = { cls := .type "dict", data := .dict es k }) ∧ ∃ vs k, ot = { cls := .type "tuple", data := .seq vs k }

local macro_rules | `(tactic| x_close) => `(tactic| (refine ⟨_, _, _, _, _, _, _, rfl, rfl, x_keep (by assumption), x_at (by assumption) (by lge_bears), x_at (by assumption) (by lge_bears), x_at (by assumption) (by lge_bears), ?_, ?_, ?_⟩; exact rfl; exact ⟨_, _, rfl⟩; exact ⟨_, _, rfl⟩))
theorem fresh_Fault : True := by
  w_top off
  exact trivial
set_option maxRecDepth 100000 in
set_option maxHeartbeats 0 in
theorem call_fault9 (prog : Program) (w : World) (fs : List Env) (gd : Option (List Code)) (h : Heap) (gens : Array GenState) (dr : Drawn) (tk : Nat) (os : OsState) (msg : Str) (tm : Tok) (n : Int) (tn : Tok) (E : Value → Shared → Prop) (X : (K4 w.params).In h) :
    wpAny (model prog w) { handled := none, depth := 900, frames := some fs, guards := gd, units := 9000 } (call (.ref 45) [.str msg tm, .int n tn]) (FaultQ h ⟨h, gens, dr, tk, os⟩ (.int n tn)) E ⟨h, gens, dr, tk, os⟩ := by
  x_run
theorem call_fault {w : World} {A : Around} {s : Shared} {msg : Str} {tm : Tok} {n : Int} {tn : Tok} {E : Value → Shared → Prop} (X : (K4 w.params).In s.heap) (hh : A.handled = none) {fs : List Env} (hf : A.frames = some fs) (hd : A.depth ≤ 900) (hu : A.units ≤ 9000) :
    wpAny (model PySem.Challenge.rw_xw0043_01.row.prog w) A (call (.ref 45) [.str msg tm, .int n tn]) (FaultQ s.heap s (.int n tn)) E s :=
  weaken (call_fault9 _ w fs A.guards s.heap s.gens s.drawn s.toks s.os msg tm n tn E X) hh hd hf.symm rfl hu

theorem fresh_Fly : True := by
  w_top off
  exact trivial
/-- an exception of FlowFault's class, its dict `d`, with a traceback whose newest entry is in flight by `fl` -/
noncomputable def Flt (base h : Heap) (e d : Addr) (fl : Value) : Prop :=
  ∃ oe vs T oT ts, h.get? e = some oe ∧ oe.cls = .ref 45 ∧ oe.dict = some d ∧ oe.data = .fields vs ∧ vs[1]? = some (.ref T) ∧ base.get? T = none ∧ T ≠ e ∧ h.get? T = some oT ∧ oT.data = .fields ts ∧ ts[3]? = some fl
theorem dict_mapFields (o : Obj) (f : Array Value → Array Value) : (o.mapFields f).dict = o.dict := by
  obtain ⟨c, d, dt, sl⟩ := o
  cases dt <;> rfl
section
variable {M : Model} {A : Around} {E : Value → Shared → Prop} {s : Shared} {base : Heap} {env : Env} {outer l : List Env} {L e d : Addr} {Q : Unit → Shared → Prop}
/-- a new entry laid before the traceback of `e` -/
theorem fly_entry {oe : Obj} {vs : Array Value} {head : Value} {hadNext : Bool}
    (hfr : A.frames = some (env :: outer)) (hl : s.heap.FunFrames base (env :: outer)) (hf : env.frame = some L)
    (he : s.heap.get? e = some oe) (hc : oe.cls = .ref 45) (hdi : oe.dict = some d) (hkb : base.StaysIn s.heap) (hen : base.get? e = none) (hd : oe.data = .fields vs) (hsz : 1 < vs.size)
    (h : ∀ h', base.StaysIn h' → h'.FunFrames base (env :: outer) → Flt base h' e d (rawInt L) → s.heap.UpToSlots h' → Q () { s with heap := h' }) :
    wpAny M A (do let a ← frameOf env; let pl ← entryPlaceOf L hadNext; let b ← EntryCells.newEntry head a .none (rawInt L) .none pl; setField (.ref e) 1 b) Q E s := by
  have hene : e ∉ (env :: outer).filterMap (·.frame) := fun hm => by
    obtain ⟨_, o, ho, hnf⟩ := hl.mem hm
    rw [he] at ho
    cases ho
    exact hnf vs hd
  refine wpAny_bind (wpAny_frameOf_fun hfr hl hf fun h₁ hs₁ => ?_)
  refine wpAny_bind (wpAny_entryPlaceOf fun pl hpl => ?_)
  unfold EntryCells.newEntry newFields
  refine wpAny_bind (wpAny_newObj_type ?_ (hpl.sizeOk5 _ _ _ _ _))
  have he₁ : h₁.get? e = some oe := (hs₁.2.1 e hene).trans he
  have kb₁ : base.StaysIn h₁ := fun b o hbo => (hs₁.2.1 b fun hm => by rw [(hl.mem hm).1] at hbo; cases hbo).trans (hkb b o hbo)
  generalize hT : ({ cls := .type "traceback", dict := none, data := .fields ([head, .ref L, .none, rawInt L, .none] ++ (if pl.isEmpty then List.replicate 6 Value.none else pl)).toArray } : Obj) = oT
  have hTd : ∃ ts, oT.data = .fields ts ∧ ts[3]? = some (rawInt L) := ⟨_, by rw [← hT], by simp⟩
  have hTf : oT.isFreed = false := by obtain ⟨ts, h1, _⟩ := hTd; exact Obj.isFreed_of_fields h1
  have he₂ := Heap.get?_push_of_some (h := h₁) oT he₁
  have hTe : h₁.objs.size ≠ e := Nat.ne_of_gt (Heap.lt_size he₁)
  have keep : ∀ b o, b ≠ e → (h₁.push oT).get? b = some o → ((h₁.push oT).update e (Obj.mapFields (·.setIfInBounds 1 (Value.ref h₁.objs.size)))).get? b = some o := fun b o hbe hb => (Heap.get?_update_other _ _ (Ne.symm hbe)).trans hb
  have old : ∀ b o, s.heap.get? b = some o → (∀ vs, o.data ≠ .fields vs) → ∃ sl, ((h₁.push oT).update e (Obj.mapFields (·.setIfInBounds 1 (Value.ref h₁.objs.size)))).get? b = some { o with slots := sl } := fun b o hb hnf => by
    obtain ⟨sl, hs⟩ := hs₁.2.2 b o hb
    refine ⟨sl, keep b _ (fun q => ?_) (Heap.get?_push_of_some _ hs)⟩
    rw [q, he] at hb
    cases hb
    exact hnf vs hd
  refine wpAny_setField he₂ hd hsz (h _ (fun b o hbo => keep b o (fun q => by rw [q, hen] at hbo; cases hbo) (Heap.get?_push_of_some _ (kb₁ b o hbo))) (hl.of_keeps fun b o hb hnf => ?_) ?_ old)
  · obtain ⟨sl, hs⟩ := old b o hb hnf
    exact ⟨_, hs, rfl⟩
  · obtain ⟨ts, t1, t2⟩ := hTd
    refine ⟨_, _, h₁.objs.size, oT, ts, Heap.get?_update_self _ he₂ (Obj.isFreed_of_fields (Obj.data_mapFields hd _)), ?_, ?_, Obj.data_mapFields hd _, by simp [hsz], kb₁.fresh, hTe, keep _ _ hTe (Heap.get?_push_size h₁ hTf), t1, t2⟩
    · rw [Obj.cls_mapFields]; exact hc
    · rw [dict_mapFields]; exact hdi
theorem fly_flight {fl : Value} (hkb : base.StaysIn s.heap) (hl : s.heap.FunFrames base l) (ht : Flt base s.heap e d fl)
    (h : ∀ h', base.StaysIn h' → h'.FunFrames base l → Flt base h' e d .none → s.heap.UpToSlots h' → Q () { s with heap := h' }) : wpAny M A (setFlight (.ref e) none) Q E s := by
  obtain ⟨oe, vs, T, oT, ts, he, hc, hdi, hd, h1, hnT, hTe, hT, hdT, h3⟩ := ht
  have hsz : 3 < ts.size := (Array.getElem?_eq_some_iff.mp h3).1
  unfold setFlight
  refine wpAny_bind (wpAny_field he hd h1 ?_)
  rw [if_pos (show (Value.ref T != Value.none) = true from by simp)]
  have keep : ∀ b o, b ≠ T → s.heap.get? b = some o → (s.heap.update T (Obj.mapFields (·.setIfInBounds 3 ((none : Option Addr).elim Value.none fun f => rawInt f)))).get? b = some o := fun b o hb q => (Heap.get?_update_other _ _ (Ne.symm hb)).trans q
  have off : ∀ b o, s.heap.get? b = some o → (∀ vs, o.data ≠ .fields vs) → b ≠ T := fun b o hb hnf q => by
    rw [q, hT] at hb
    cases hb
    exact hnf ts hdT
  refine wpAny_setField hT hdT hsz (h _ (fun b o q => keep b o (fun z => by rw [z, hnT] at q; cases q) (hkb b o q)) (hl.of_keeps fun b o hb hnf => ⟨o, keep b o (off b o hb hnf) hb, rfl⟩) ?_ fun b o hb hnf => ⟨o.slots, keep b o (off b o hb hnf) hb⟩)
  exact ⟨oe, vs, T, _, _, keep e _ (Ne.symm hTe) he, hc, hdi, hd, h1, hnT, hTe, Heap.get?_update_self _ hT (Obj.isFreed_of_fields (Obj.data_mapFields hdT _)), Obj.data_mapFields hdT _, by simp [hsz]⟩
theorem fly_note_first {oe : Obj} {vs : Array Value} (hfr : A.frames = some (env :: outer)) (hl : s.heap.FunFrames base (env :: outer)) (hf : env.frame = some L)
    (he : s.heap.get? e = some oe) (hc : oe.cls = .ref 45) (hdi : oe.dict = some d) (hkb : base.StaysIn s.heap) (hen : base.get? e = none) (hd : oe.data = .fields vs) (h1 : vs[1]? = some .none)
    (h : ∀ h', base.StaysIn h' → h'.FunFrames base (env :: outer) → Flt base h' e d (rawInt L) → s.heap.UpToSlots h' → Q () { s with heap := h' }) : wpAny M A (noteFrame (.ref e) env) Q E s := by
  unfold noteFrame
  simp only [hf]
  refine wpAny_bind (wpAny_field he hd h1 ?_)
  rw [if_neg (by decide)]
  exact fly_entry hfr hl hf he hc hdi hkb hen hd (Array.getElem?_eq_some_iff.mp h1).1 h
theorem fly_note_on (hfr : A.frames = some (env :: outer)) (hl : s.heap.FunFrames base (env :: outer)) (hf : env.frame = some L) (ht : Flt base s.heap e d .none) (hkb : base.StaysIn s.heap) (hen : base.get? e = none)
    (h : ∀ h', base.StaysIn h' → h'.FunFrames base (env :: outer) → Flt base h' e d (rawInt L) → s.heap.UpToSlots h' → Q () { s with heap := h' }) : wpAny M A (noteFrame (.ref e) env) Q E s := by
  obtain ⟨oe, vs, T, oT, ts, he, hc, hdi, hd, h1, hnT, hTe, hT, hdT, h3⟩ := ht
  unfold noteFrame
  simp only [hf]
  refine wpAny_bind (wpAny_field he hd h1 ?_)
  rw [if_pos (show (Value.ref T != Value.none) = true from by simp)]
  refine wpAny_bind (wpAny_field hT hdT h3 ?_)
  rw [if_neg (show ¬ ((Value.none == rawInt L) = true) from by simp [rawInt])]
  refine wpAny_bind (wpAny_setField hT hdT (Array.getElem?_eq_some_iff.mp h3).1 ?_)
  have keep : ∀ b o, b ≠ T → s.heap.get? b = some o → (s.heap.update T (Obj.mapFields (·.setIfInBounds 3 Value.none))).get? b = some o := fun b o hb q => (Heap.get?_update_other _ _ (Ne.symm hb)).trans q
  have off : ∀ b o, s.heap.get? b = some o → (∀ vs, o.data ≠ .fields vs) → b ≠ T := fun b o hb hnf q => by
    rw [q, hT] at hb
    cases hb
    exact hnf ts hdT
  refine fly_entry hfr (hl.of_keeps fun b o hb hnf => ⟨o, keep b o (off b o hb hnf) hb, rfl⟩) hf (keep e _ (Ne.symm hTe) he) hc hdi (fun b o q => keep b o (fun z => by rw [z, hnT] at q; cases q) (hkb b o q)) hen hd (Array.getElem?_eq_some_iff.mp h1).1
    fun h' x1 x2 x3 x4 => h h' x1 x2 x3 fun b o hb hnf => x4 b o (keep b o (off b o hb hnf) hb) hnf
end
/-- FlowFault `e` flies through the frames `l`; `B` is what has stayed as it was -/
noncomputable def Flies (B : Heap) (l : List Env) (e d : Addr) (h : Heap) : Prop := B.StaysIn h ∧ B.get? e = none ∧ h.FunFrames B l ∧ Flt B h e d .none
noncomputable def FaultR (base G : Heap) (l : List Env) (e d : Addr) (news : Ledger) (h : Heap) : Prop :=
  ∃ B, base.StaysIn B ∧ (∀ b o, G.get? b = some o → b ∉ l.filterMap (·.frame) → B.get? b = some o) ∧ (∀ q ∈ news, B.get? q.1 = some q.2 ∧ G.get? q.1 = none ∧ base.get? q.1 = none) ∧ Flies B l e d h
theorem FaultR.sub {base G h : Heap} {l : List Env} {e d : Addr} {news news' : Ledger} (R : FaultR base G l e d news h) (hs : ∀ p ∈ news', p ∈ news) : FaultR base G l e d news' h :=
  let ⟨B, a, b, c, r⟩ := R; ⟨B, a, b, fun q hq => c q (hs q hq), r⟩
section
variable {M : Model} {A : Around} {E : Value → Shared → Prop} {s' : Shared} {base g g₂ : Heap} {env : Env} {outer : List Env} {L e d t : Addr} {m : Str → Option Value} {Q : Unit → Shared → Prop} {news : Ledger}
theorem fly_mem {b : Addr} (hf : env.frame = some L) (hm : b ∈ (env :: outer).filterMap (·.frame)) : b = L ∨ b ∈ outer.filterMap (·.frame) := by
  rw [List.filterMap_cons, hf] at hm
  exact List.mem_cons.mp hm
theorem fly_leave_made (K : Below A base outer g) (F : Fr g L s'.heap m) (N : News g L s'.heap news) (hf : env.frame = some L) (hk : env.scope.kind = .function)
    (he : s'.heap.get? e = some { cls := .ref 45, dict := some d, data := .fields #[.ref t, .none, .none, .none, .bool false, .none] }) (hg : g.get? e = none) (hn : ∀ p ∈ news, p.1 ≠ e)
    (hQ : ∀ h', FaultR base g outer e d news h' → g.UpToSlots h' → Q () { s' with heap := h' }) : wpAny M (A.deeper env) (leaving env (.ref e)) Q E s' := by
  have K' := pushX K F hf hk
  have hene : e ∉ (env :: outer).filterMap (·.frame) := fun hm => by
    obtain ⟨_, o, ho, hnf⟩ := K'.frames.mem hm
    rw [he] at ho
    cases ho
    exact hnf _ rfl
  have hFf : s'.heap.FunFrames (hideAll s'.heap (e :: (env :: outer).filterMap (·.frame))) (env :: outer) := funFrames_hide K'.frames fun env he b hb => List.mem_cons_of_mem _ (List.mem_filterMap.mpr ⟨env, he, hb⟩)
  have hbe : base.get? e = none := fresh_of_stays K.stays hg
  have st : base.StaysIn (hideAll s'.heap (e :: (env :: outer).filterMap (·.frame))) := fun b o q => hideAll_get _ (K'.stays b o q) fun hm => by
    rcases List.mem_cons.mp hm with rfl | hm
    · rw [hbe] at q; cases q
    · rw [(K'.frames.mem hm).1] at q; cases q
  have sg : ∀ b o, g.get? b = some o → b ∉ outer.filterMap (·.frame) → (hideAll s'.heap (e :: (env :: outer).filterMap (·.frame))).get? b = some o := fun b o q nm => hideAll_get _ (F.keep b o q) fun hm => by
    rcases List.mem_cons.mp hm with rfl | hm
    · rw [hg] at q; cases q
    · rcases fly_mem hf hm with z | z
      · rw [z, kts_self F] at q; cases q
      · exact nm z
  have hl : ∀ q ∈ news, (hideAll s'.heap (e :: (env :: outer).filterMap (·.frame))).get? q.1 = some q.2 ∧ g.get? q.1 = none ∧ base.get? q.1 = none := fun q hq => by
    refine ⟨hideAll_get _ (N q hq).1 fun hm => ?_, (N q hq).2.2, fresh_of_stays K.stays (N q hq).2.2⟩
    rcases List.mem_cons.mp hm with z | hm
    · exact hn q hq z
    · rcases fly_mem hf hm with z | z
      · exact (N q hq).2.1 z
      · obtain ⟨_, o, ho, _⟩ := K.frames.mem z
        rw [(N q hq).2.2] at ho; cases ho
  have hB : (hideAll s'.heap (e :: (env :: outer).filterMap (·.frame))).StaysIn s'.heap := fun b o q => of_hideAll _ q
  have hBe : (hideAll s'.heap (e :: (env :: outer).filterMap (·.frame))).get? e = none := hideAll_none _ List.mem_cons_self
  unfold leaving
  refine wpAny_bind (fly_note_first (Around.frames_deeper K.stack) hFf hf he rfl rfl hB hBe rfl rfl fun h₁ x1 x2 x3 x4 => ?_)
  refine fly_flight x1 x2 x3 fun h₂ y1 y2 y3 y4 => hQ h₂ ⟨_, st, sg, hl, y1, hBe, ?_, y3⟩ (((Heap.UpToSlots.of_keeps F.keep).trans x4).trans y4)
  obtain ⟨_, _, r⟩ := y2
  exact r
theorem fly_leave_on (K : Below A base outer g) (F : Fr g L g₂ m) (hf : env.frame = some L) (R : FaultR base g₂ (env :: outer) e d news s'.heap) (hsm : g₂.UpToSlots s'.heap)
    (hQ : ∀ h', FaultR base g outer e d news h' → g.UpToSlots h' → Q () { s' with heap := h' }) : wpAny M (A.deeper env) (leaving env (.ref e)) Q E s' := by
  obtain ⟨B, hB, hBG, hl, f1, f2, f3, f4⟩ := R
  unfold leaving
  refine wpAny_bind (fly_note_on (Around.frames_deeper K.stack) f3 hf f4 f1 f2 fun h₁ x1 x2 x3 x4 => ?_)
  refine fly_flight x1 x2 x3 fun h₂ y1 y2 y3 y4 => hQ h₂ ⟨B, hB, fun b o q nm => hBG b o (F.keep b o q) fun hm => ?_, fun q hq => ⟨(hl q hq).1, kts_none F.keep (hl q hq).2.1, (hl q hq).2.2⟩, y1, f2, ?_, y3⟩ ((Heap.UpToSlots.of_keeps F.keep).trans ((hsm.trans x4).trans y4))
  · rcases fly_mem hf hm with z | z
    · rw [z, kts_self F] at q; cases q
    · exact nm z
  · obtain ⟨_, _, r⟩ := y2
    exact r
end

theorem fresh_Raise : True := by
  w_top off
  exact trivial
/-- a FlowFault made, about to be raised -/
noncomputable def RaiseAt (w : World) (E : Value → Shared → Prop) (v : Value) (s : Shared) : Prop :=
  ∃ e d t, v = .ref e ∧ (K4 w.params).In s.heap ∧ s.heap.get? e = some { cls := .ref 45, dict := some d, data := .fields #[.ref t, .none, .none, .none, .bool false, .none] } ∧ E (.ref e) s
theorem raise_own {prog : Program} {w : World} {A : Around} {s : Shared} {env : Env} {x : PySem.Expr} {pos : Pos} {Q : Flow → Shared → Prop} {E : Value → Shared → Prop} (hh : A.handled = none) (h : wpAny (model prog w) A (eval x env) (RaiseAt w E) E s) :
    wpAny (model prog w) A (exec (.Raise (some x) none pos) env) Q E s := by
  rw [arm_exec_Raise]
  refine wpAny_bind (wpAny_standAt ?_)
  show wpAny _ A (raiseStmt env (some _) none) _ _ _
  unfold raiseStmt
  refine wpAny_bind (wpAny_bind (wpAny_mono h (fun v s₁ h₁ => wpAny_bind (wpAny_standAt (wpAny_pure ?_))) fun _ _ x => x))
  obtain ⟨e, d, t, rfl, X, he, hE⟩ := h₁
  obtain ⟨nm, q', N, bs, bm, hdct, sn, sub, ab, col, dd, k0, k1, k2, k3, k5, newId, hC, hbase, _⟩ := kts_cls (T := "BaseException") X (C := 45) rfl
  have hcB : (Value.ref 45 :: bm).contains (.type "BaseException") = true := by rw [List.contains_cons, hbase, Bool.or_true]
  obtain ⟨hp, g, dr, tk, os⟩ := s₁
  dsimp only at he hC hE ⊢
  repeat (first | with_reducible refine wpAny_loadPart_at he ?_ | with_reducible refine wpAny_loadPart_at hC ?_ | (with_reducible refine wpAny_isSubtype_exc hC ?_; rw [hcB]) | wp_step)
  exact wpAny_raiseNew_none hh hE
theorem fault_flies {w : World} {A : Around} {s : Shared} {env : Env} {outer : List Env} {base g : Heap} {L : Addr} {m : Str → Option Value} {news : Ledger} {msg : Str} {tm : Tok} {n : Int} {tn : Tok} {E E' E'' : Value → Shared → Prop} {M : Model} (hM : M = model PySem.Challenge.rw_xw0043_01.row.prog w)
    (B : Below A base outer g) (F : Fr g L s.heap m) (N : News g L s.heap news) (X : (K4 w.params).In g) (hh : A.handled = none) (hf : env.frame = some L) (hk : env.scope.kind = .function) (hd : A.depth + 1 ≤ 900) (hu : A.units + 3 ≤ 9000)
    (hE : ∀ e d od h' tk, lookIn (Str.ofString "spot") od = some (some (.int n tn)) → FaultR base g outer e d ((d, od) :: news) h' → g.UpToSlots h' → E (.ref e) { s with heap := h', toks := tk }) :
    wpAny M (A.deeper env) (call (.ref 45) [.str msg tm, .int n tn]) (RaiseAt w (fun e s' => wpAny M (A.deeper env) (leaving env e) (fun _ s'' => E e s'') E' s')) E'' s := by
  subst hM
  refine wpAny_mono (call_fault (X.keeps F.keep) hh (Around.frames_deeper B.stack) hd hu) ?_ fun _ _ x => x
  rintro v s₁ ⟨e, t, d, ot, od, h', tk, rfl, rfl, hkp, ⟨he, he0⟩, ⟨ht, ht0⟩, ⟨hd, hd0⟩, hsp, ⟨es, k, rfl⟩, _⟩
  have ge : g.get? e = none := fresh_of_stays F.keep he0
  have gd : g.get? d = none := fresh_of_stays F.keep hd0
  have hne : d ≠ e := fun q => by rw [q, he] at hd; cases hd
  have dL : d ≠ L := fun q => by
    obtain ⟨o, _, _, ho, _⟩ := F.ns
    rw [q, ho] at hd0; cases hd0
  refine ⟨e, d, t, rfl, X.keeps (fun b o q => hkp b o (F.keep b o q)), he, ?_⟩
  refine fly_leave_made (s' := { s with heap := h', toks := tk }) B (F.keeps hkp) (news := (d, _) :: news) (fun p hp => ?_) hf hk he ge (fun p hp => ?_) fun h'' R up => hE e d _ h'' _ hsp R up
  · rcases List.mem_cons.mp hp with rfl | hp
    · exact ⟨hd, dL, gd⟩
    · exact N.grown hkp p hp
  · rcases List.mem_cons.mp hp with rfl | hp
    · exact hne
    · exact fun q => by have := (N p hp).1; rw [q, he0] at this; cases this

theorem fresh_ConR : True := by
  w_top off
  exact trivial
/-- a call that may raise FlowFault: what it hands back, or with what spot it raises, over the ledger it leaves -/
noncomputable def ConR (w : World) (f : Addr) (dn un : Nat) (vs : List Value) (news : Ledger) (R : Value → Ledger → Prop) (RE : Int → Ledger → Prop) : Prop :=
  ∀ (p : Program) (loose : List Str) (mean : ExcName → Option Value) (mg mb : Str → Option Value) (dp u : Nat) (gd : Option (List Code)) (cn : Str) (cs : Scope) (a : Addr) (ccd : Value) (cl : List (Str × Addr)) (outer : List Env) (A₀ : Around) (base h₀ : Heap) (L : Addr) (m : Str → Option Value) (h : Heap) (g : Array GenState) (d : Drawn) (tk : Nat) (o : OsState)
    (Q E : Value → Shared → Prop),
    Below A₀ base outer h₀ → (K4 w.params).In h₀ → Top p loose mean mg mb h₀ → cs.kind = .function → dp + dn < 900 → u + un < 9000 → Fr h₀ L h m → News h₀ L h news →
    (∀ r n' h' tk', Fr h₀ L h' m → News h₀ L h' n' → R r n' → Q r ⟨h', g, d, tk', o⟩) →
    (∀ e c oc i t n' h' tk' g', lookIn (Str.ofString "spot") oc = some (some (.int i t)) → Fr h₀ L g' m → FaultR base g' (envX cn cs L a ccd cl :: outer) e c ((c, oc) :: n') h' → g'.UpToSlots h' → RE i n' → E (.ref e) ⟨h', g, d, tk', o⟩) →
    wpAny (model PySem.Challenge.rw_xw0043_01.row.prog w) (ktrTop dp u gd cn cs L a ccd cl outer) (call (.ref f) vs) Q E ⟨h, g, d, tk, o⟩
/-- FlowFault may be made here: it flies to `E` -/
noncomputable def FaultOn (w : World) (g : Heap) (L : Addr) (a9 : Around) (gs : Array GenState) (dr : Drawn) (o : OsState) (RE : Int → Ledger → Prop) (E : Value → Shared → Prop) : Prop :=
  ∀ msg tm n tn h tk m n' E'', Fr g L h m → News g L h n' → RE n n' → wpAny (model PySem.Challenge.rw_xw0043_01.row.prog w) a9 (call (.ref 45) [.str msg tm, .int n tn]) (RaiseAt w E) E'' ⟨h, gs, dr, tk, o⟩
/-- what an inner call raises flies to `E` -/
noncomputable def FliesOn (base g : Heap) (L : Addr) (e9 : Env) (outer : List Env) (gs : Array GenState) (dr : Drawn) (o : OsState) (RE : Int → Ledger → Prop) (E : Value → Shared → Prop) : Prop :=
  ∀ e c oc i t n' h' tk' g' m, lookIn (Str.ofString "spot") oc = some (some (.int i t)) → Fr g L g' m → FaultR base g' (e9 :: outer) e c ((c, oc) :: n') h' → g'.UpToSlots h' → RE i n' → E (.ref e) ⟨h', gs, dr, tk', o⟩
theorem ConR.use {w : World} {f : Addr} {dn un : Nat} {vs : List Value} {news : Ledger} {R : Value → Ledger → Prop} {RE RE' : Int → Ledger → Prop}
    {p : Program} {loose : List Str} {mean : ExcName → Option Value} {mg mb : Str → Option Value} {dp u : Nat} {gd : Option (List Code)} {cn : Str} {cs : Scope} {a : Addr} {ccd : Value} {cl : List (Str × Addr)} {outer : List Env} {A₀ : Around} {base h₀ : Heap} {L : Addr} {m : Str → Option Value} {h : Heap} {g : Array GenState} {d : Drawn} {tk : Nat} {o : OsState}
    {Q E : Value → Shared → Prop} (B : Below A₀ base outer h₀) (X : (K4 w.params).In h₀) (T : Top p loose mean mg mb h₀) (hk : ScopeKind.function = cs.kind) (C : ConR w f dn un vs news R RE) (hd : dp + dn < 900) (hu : u + un < 9000) (F : Fr h₀ L h m) (N : News h₀ L h news)
    (fly : FliesOn base h₀ L (envX cn cs L a ccd cl) outer g d o RE' E) (raise : ∀ i n', RE i n' → ∃ n'', (∀ p ∈ n'', p ∈ n') ∧ RE' i n'') (ret : ∀ r n', R r n' → let n9 := n'; ∀ h' tk', Fr h₀ L h' m → News h₀ L h' n9 → Q r ⟨h', g, d, tk', o⟩) :
    wpAny (model PySem.Challenge.rw_xw0043_01.row.prog w) (ktrTop dp u gd cn cs L a ccd cl outer) (call (.ref f) vs) Q E ⟨h, g, d, tk, o⟩ :=
  C p loose mean mg mb dp u gd cn cs a ccd cl outer A₀ base h₀ L m h g d tk o Q E B X T hk.symm hd hu F N (fun r n' h' tk' F' N' hR => ret r n' hR h' tk' F' N') fun e c oc i t n' h' tk' g' hl F' R' up hr => by
    obtain ⟨n'', hs, hr'⟩ := raise i n' hr
    refine fly e c oc i t n'' h' tk' g' m hl F' (R'.sub fun p hp => ?_) up hr'
    rcases List.mem_cons.mp hp with rfl | hp
    · exact List.mem_cons_self
    · exact List.mem_cons_of_mem _ (hs p hp)
theorem ConR.sub {w : World} {f : Addr} {dn un : Nat} {vs : List Value} {news news' : Ledger} {R R' : Value → Ledger → Prop} {RE RE' : Int → Ledger → Prop} (C : ConR w f dn un vs news R RE) (hs : ∀ p ∈ news, p ∈ news') (h : ∀ r n, R r n → R' r n) (h' : ∀ i n, RE i n → RE' i n) : ConR w f dn un vs news' R' RE' := by
  intro p loose mean mg mb dp u gd cn cs a ccd cl outer A₀ base h₀ L m h0 g d tk o Q E B X T hk hd hu F N ret raise
  exact C p loose mean mg mb dp u gd cn cs a ccd cl outer A₀ base h₀ L m h0 g d tk o Q E B X T hk hd hu F (N.perm hs) (fun r n h2 tk F' N' hR => ret r n h2 tk F' N' (h r n hR)) fun e d od i t n h2 tk g a1 a2 a3 a4 hR => raise e d od i t n h2 tk g a1 a2 a3 a4 (h' i n hR)
section
variable {w : World} {f : Addr} {dn un : Nat} {vs : List Value} {news : Ledger} {R : Value → Ledger → Prop} {RE : Int → Ledger → Prop} {name qual : Str} {params : Arguments} {body : List Stmt} {scope : Scope} {dV kV doc pm cdv ct oc : Value} {an od : Option Addr} {osl : Array (Option Value)} {binds : List (Str × Value)}
theorem conR_enter (ho : (K4 w.params).lookup f = some ⟨oc, od, .func (fnOf name qual params body scope dV kV doc pm an cdv ct), osl⟩) (hcd : codeIn (K4 w.params) cdv qual = true)
    (hbind : ∀ s, BindsTo s (fnOf name qual params body scope dV kV doc pm an cdv ct) ⟨vs, []⟩ binds) (hloc : true = binds.all fun y => decide (scope.names.lookup y.1 = some .local))
    (hfl : true = (!scope.isCoroutine && !scope.isGenerator && (scope.kind == .function) && scope.names.all fun x => x.2 != .cell))
    (body_ : ∀ (p : Program) (loose : List Str) (mean : ExcName → Option Value) (mg mb : Str → Option Value) (dp u : Nat) (gd : Option (List Code)) (outer : List Env) (A : Around) (base g : Heap) (L : Addr) (h : Heap) (g9 : Array GenState) (d9 : Drawn) (tk : Nat) (o9 : OsState) (Q : Flow → Shared → Prop) (E : Value → Shared → Prop),
      Below A base outer g → (K4 w.params).In g → Top p loose mean mg mb g → dp + dn < 900 → u + un < 9000 → (∀ fl n' h' tk' m', Fr g L h' m' → News g L h' n' → R (flv fl) n' → Q fl ⟨h', g9, d9, tk', o9⟩) →
      let e9 := envX qual scope L f cdv []; let a9 := ktrTop dp u gd qual scope L f cdv [] outer; let m9 := fun y => binds.reverse.lookup y
      PassesOwn (model PySem.Challenge.rw_xw0043_01.row.prog w) a9 e9 E → FaultOn w g L a9 g9 d9 o9 RE E → FliesOn base g L e9 outer g9 d9 o9 RE E →
      Fr g L h m9 → News g L h news → wpAny (model PySem.Challenge.rw_xw0043_01.row.prog w) a9 (execs body e9) Q E ⟨h, g9, d9, tk, o9⟩) : ConR w f (dn + 1) (un + 3) vs news R RE := by
  intro p loose mean mg mb dp u gd cn cs a ccd cl outer A₀ base h₀ L m h g d tk o Q E B X T hk hd hu F N ret raise
  simp only [Bool.true_eq, Bool.and_eq_true, Bool.not_eq_true', beq_iff_eq] at hfl
  obtain ⟨⟨⟨hco, hgen⟩, hkd⟩, hcell⟩ := hfl
  have hc' : ∀ x ∈ scope.names, x.2 ≠ .cell := fun x hx => by
    have := List.all_eq_true.mp hcell x hx
    simpa using this
  refine wpAny_call (code_def B F X N T rfl rfl hk ho hcd (by show dp < recursionLimit; have : recursionLimit = 1000 := rfl; omega) (hbind _) (locs hloc.symm) (fun g₁ L' h₁ FG F' N' B' X' T' => ?_) hco hgen hkd hc')
  refine body_ p loose mean mg mb (dp + 1) (u + 3) _ (envX cn cs L a ccd cl :: outer) _ base g₁ L' h₁ g d _ o _ _ B' X' T' (by omega) (by omega) (fun fl n' h' tk' m' F₂ N₂ k => leaveK_ F₂ N₂ fun F₃ N₃ => ?_) (by with_unfolding_all passes_own) ?_ ?_ F' N'
  · cases fl <;> exact ret _ n' h' tk' F₃ N₃ k
  · intro msg tm n tn h2 tk2 m2 n2 E'' F2 N2 hr
    exact fault_flies (s := ⟨h2, g, d, tk2, o⟩) rfl B' F2 N2 X' rfl rfl hkd (by show dp + 1 ≤ 900; omega) (by show u + 3 ≤ 9000; omega) fun e c oc h' tk' hl R' up => raise e c oc n tn n2 h' tk' g₁ hl FG R' up hr
  · intro e c oc i t n2 h2 tk2 g2 m2 hl F2 R2 up hr
    exact fly_leave_on (s' := ⟨h2, g, d, tk2, o⟩) B' F2 rfl R2 up fun h3 R3 up3 => raise e c oc i t n2 h3 tk2 g₁ hl FG R3 up3 hr
theorem conR_enter2 {x1 x2 : Str} (ho : (K4 w.params).lookup f = some ⟨oc, od, .func (fnOf name qual params body scope dV kV doc pm an cdv ct), osl⟩) (hcd : codeIn (K4 w.params) cdv qual = true)
    (hbind : ∀ s, BindsTo s (fnOf name qual params body scope dV kV doc pm an cdv ct) ⟨vs, []⟩ binds) (hkind : (binds.all fun y => scope.names.lookup y.1 == some .local || scope.names.lookup y.1 == some .cell) = true)
    (hfl : true = (!scope.isCoroutine && !scope.isGenerator && (scope.kind == .function))) (hnd : ((cellsFrom 0 scope.names []).map (·.1)).Nodup) (hce : ∀ L, cellsFrom (L + 1) scope.names [] = [(x2, L + 1 + 1), (x1, L + 1)])
    (hno : ∀ L, none = bindC (envOfC qual scope L f cdv).kindOf binds (fun _ => none) x1 ∧ none = bindC (envOfC qual scope L f cdv).kindOf binds (fun _ => none) x2)
    (body_ : ∀ (p : Program) (loose : List Str) (mean : ExcName → Option Value) (mg mb : Str → Option Value) (dp u : Nat) (gd : Option (List Code)) (outer : List Env) (A : Around) (base g : Heap) (L : Addr) (h : Heap) (g9 : Array GenState) (d9 : Drawn) (tk : Nat) (o9 : OsState) (Q : Flow → Shared → Prop) (E : Value → Shared → Prop) (o1 o2 : Obj),
      Below A base outer g → (K4 w.params).In g → Top p loose mean mg mb g → dp + dn < 900 → u + un < 9000 → (∀ fl n' h' tk' m', Fr g L h' m' → News g L h' n' → R (flv fl) n' → Q fl ⟨h', g9, d9, tk', o9⟩) → o1.data = .cell none → o2.data = .cell none → (∀ p ∈ news, @LT.lt Nat _ p.1 L) →
      let e9 := envX qual scope L f cdv [(x2, L + 1 + 1), (x1, L + 1)]; let a9 := ktrTop dp u gd qual scope L f cdv [(x2, L + 1 + 1), (x1, L + 1)] outer; let m9 := bindL (envOfC qual scope L f cdv).kindOf binds fun _ => none; let n9 : Ledger := (L + 1 + 1, o2) :: (L + 1, o1) :: news
      PassesOwn (model PySem.Challenge.rw_xw0043_01.row.prog w) a9 e9 E → FaultOn w g L a9 g9 d9 o9 RE E → FliesOn base g L e9 outer g9 d9 o9 RE E →
      Fr g L h m9 → News g L h n9 → wpAny (model PySem.Challenge.rw_xw0043_01.row.prog w) a9 (execs body e9) Q E ⟨h, g9, d9, tk, o9⟩) : ConR w f (dn + 1) (un + 3) vs news R RE := by
  intro p loose mean mg mb dp u gd cn cs a ccd cl outer A₀ base h₀ L m h g d tk o Q E B X T hk hd hu F N ret raise
  simp only [Bool.true_eq, Bool.and_eq_true, Bool.not_eq_true', beq_iff_eq] at hfl
  obtain ⟨⟨hco, hgen⟩, hkd⟩ := hfl
  refine wpAny_call (code_defC B F X N T rfl rfl hk ho hcd (by show dp < recursionLimit; have : recursionLimit = 1000 := rfl; omega) (hbind _) hkind hnd (fun g₁ L' h₁ tk₁ cells FG F' N' Y B' X' T' lt => ?_) hco hgen hkd)
  have Y := hce L' ▸ Y
  obtain ⟨o2, o1, rfl, d2, d1⟩ := Y.two
  have e0 : envOfC qual scope L' f cdv = envX qual scope L' f cdv [(x2, L' + 1 + 1), (x1, L' + 1)] := by unfold envOfC; rw [hce L']
  rw [e0]
  refine body_ p loose mean mg mb (dp + 1) (u + 3) _ (envX cn cs L a ccd cl :: outer) _ base g₁ L' h₁ g d tk₁ o _ _ o1 o2 B' X' T' (by omega) (by omega) (fun fl n' h' tk' m' F₂ N₂ k => leaveK_ F₂ N₂ fun F₃ N₃ => ?_) (d1.trans (congrArg _ (hno L').1.symm)) (d2.trans (congrArg _ (hno L').2.symm)) lt (by with_unfolding_all passes_own) ?_ ?_ F' N'
  · cases fl <;> exact ret _ n' h' tk' F₃ N₃ k
  · intro msg tm n tn h2 tk2 m2 n2 E'' F2 N2 hr
    exact fault_flies (s := ⟨h2, g, d, tk2, o⟩) rfl B' F2 N2 X' rfl rfl hkd (by show dp + 1 ≤ 900; omega) (by show u + 3 ≤ 9000; omega) fun e c oc h' tk' hl R' up => raise e c oc n tn n2 h' tk' g₁ hl FG R' up hr
  · intro e c oc i t n2 h2 tk2 g2 m2 hl F2 R2 up hr
    exact fly_leave_on (s' := ⟨h2, g, d, tk2, o⟩) B' F2 rfl R2 up fun h3 R3 up3 => raise e c oc i t n2 h3 tk2 g₁ hl FG R3 up3 hr
end
/-- a checker's dict, as the ledger writes it -/
abbrev chkD (w : World) (td ud ol : Addr) (t1 t2 t3 : Tok) : Obj :=
  dictOf [{ hash := PyData.keyHash w.params (Str.ofString "told"), key := .str (Str.ofString "told") t1, val := .ref td }, { hash := PyData.keyHash w.params (Str.ofString "used"), key := .str (Str.ofString "used") t2, val := .ref ud }, { hash := PyData.keyHash w.params (Str.ofString "open"), key := .str (Str.ofString "open") t3, val := .ref ol }] 3
/-- a checker's objects lie apart from the rest -/
structure Apart (x d td ud ol : Addr) (rest : Ledger) : Prop where
  xd : @Ne Nat x d
  xt : @Ne Nat x td
  xu : @Ne Nat x ud
  xo : @Ne Nat x ol
  dt : @Ne Nat d td
  du : @Ne Nat d ud
  do_ : @Ne Nat d ol
  tu : @Ne Nat td ud
  to : @Ne Nat td ol
  uo : @Ne Nat ud ol
  rx : ∀ p ∈ rest, p.1 ≠ x
  rd : ∀ p ∈ rest, p.1 ≠ d
  rt : ∀ p ∈ rest, p.1 ≠ td
  ru : ∀ p ∈ rest, p.1 ≠ ud
  ro : ∀ p ∈ rest, p.1 ≠ ol
abbrev CK (w : World) (x d td ud ol : Addr) (t1 t2 t3 : Tok) (o1 o2 : Obj) (vs : List Value) (n : Nat) (rest : Ledger) : Ledger :=
  (x, instObj 111 d) :: (d, chkD w td ud ol t1 t2 t3) :: (td, o1) :: (ud, o2) :: (ol, listOf vs.toArray n) :: rest
abbrev SK (w : World) := PySem.strKind PySem.Challenge.rw_xw0043_01.row.prog w
/-- a row of the open ones -/
noncomputable def OpC (nw : Ledger) (v : Value) (x : Kd × Lab × Value) : Prop := ∃ a n t, v = .ref a ∧ (a, tupOf #[x.2.2, .str x.1.word t] n) ∈ nw ∧ LabV x.2.1 x.2.2
theorem OpC.mono {nw nw' : Ledger} (hs : ∀ p ∈ nw, p ∈ nw') (v : Value) (x : Kd × Lab × Value) : OpC nw v x → OpC nw' v x := fun ⟨a, n, t, e, h, l⟩ => ⟨a, n, t, e, hs _ h, l⟩
noncomputable def opened (xs : List (Kd × Lab × Value)) : List (Kd × Lab) := (xs.map fun x => (x.1, x.2.1)).reverse
theorem All2.zip {α : Type} {R : Value → α → Prop} : ∀ {vs : List Value} {xs : List α}, All2 R vs xs → All2 (fun v (x : Value × α) => v = x.1 ∧ R v x.2) vs (vs.zip xs)
  | _, _, .nil => .nil
  | _, _, .cons h t => .cons ⟨rfl, h⟩ t.zip
theorem All2.sel {α : Type} {R : Value → α → Prop} {p : Value × α → Bool} : ∀ {vs : List Value} {xs : List α}, All2 R vs xs → All2 (fun v (x : Value × α) => v = x.1 ∧ R v x.2) (((vs.zip xs).filter p).map (·.1)) ((vs.zip xs).filter p)
  | _, _, .nil => .nil
  | _, _, .cons (v := v) (x := x) h t => by
    simp only [List.zip_cons_cons, List.filter_cons]
    cases p (v, x)
    · exact t.sel
    · exact .cons ⟨rfl, h⟩ t.sel
theorem hits_c1 {nw : Ledger} (brk : Bool) : ∀ {vs : List Value} {xs : List (Kd × Lab × Value)}, All2 (OpC nw) vs xs → (∀ y ∈ xs, y.1.left = true) →
    (((vs.zip xs).filter fun y => brk || y.2.1.loop).map fun y => y.1).isEmpty = !hits brk .no (opened xs)
  | _, _, .nil, _ => rfl
  | _, _, .cons (x := x) _ t, hl => by
    have ih := hits_c1 brk t fun y hy => hl y (List.mem_cons_of_mem _ hy)
    have h0 := hl x List.mem_cons_self
    unfold hits opened at ih ⊢
    rw [List.any_reverse] at ih ⊢
    simp only [List.zip_cons_cons, List.map_cons, List.any_cons, List.filter_cons]
    cases h : (brk || x.1.loop)
    · simp only [Bool.false_eq_true, if_false, ih]
      simp [h]
    · simp [h, h0]
theorem hits_c2 {nw : Ledger} (brk : Bool) {l : Lab} (hl : l ≠ .no) : ∀ {vs : List Value} {xs : List (Kd × Lab × Value)}, All2 (OpC nw) vs xs → (∀ y ∈ xs, y.1.left = true) →
    ((((vs.zip xs).filter fun y => brk || y.2.1.loop).filter fun y => y.2.2.1 == l && l != .u).map fun y => y.1).isEmpty = !hits brk l (opened xs)
  | _, _, .nil, _ => rfl
  | _, _, .cons (x := x) _ t, hf => by
    have ih := hits_c2 brk hl t fun y hy => hf y (List.mem_cons_of_mem _ hy)
    have h0 := hf x List.mem_cons_self
    have hno : (l == Lab.no) = false := by cases l <;> first | rfl | exact absurd rfl hl
    unfold hits opened at ih ⊢
    rw [List.any_reverse] at ih ⊢
    simp only [List.zip_cons_cons, List.map_cons, List.any_cons, List.filter_cons]
    cases h : (brk || x.1.loop)
    · simp only [Bool.false_eq_true, if_false, ih]
      simp [h]
    · simp only [if_true, List.filter_cons]
      cases h2 : (x.2.1 == l && l != .u)
      · simp only [Bool.false_eq_true, if_false, ih]
        simp [h2, hno]
      · simp [h, h0, h2]
theorem loops_in (k : Kd) : ([Str.ofString "for", Str.ofString "range"].any fun y => y == k.word) = k.loop := by cases k <;> decide
section
variable {w : World} {x d td ud ol : Addr} {t1 t2 t3 : Tok} {o1 o2 : Obj} {vs : List Value} {n : Nat} {rest pre : Ledger} {h₀ h' : Heap} {L LL : Addr}
/-- the checker's ledger, and what lies upon it -/
theorem ck_ret (N : News h₀ L h' (pre ++ CK w x d td ud ol t1 t2 t3 o1 o2 vs n rest)) : News h₀ L h' (CK w x d td ud ol t1 t2 t3 o1 o2 vs n (pre ++ rest)) := N.perm (by k_slotset)
theorem ck_lt (a1 : @LT.lt Nat _ x LL) (a2 : @LT.lt Nat _ d LL) (a3 : @LT.lt Nat _ td LL) (a4 : @LT.lt Nat _ ud LL) (a5 : @LT.lt Nat _ ol LL) (a6 : ∀ p ∈ rest, @LT.lt Nat _ p.1 LL) : ∀ p ∈ CK w x d td ud ol t1 t2 t3 o1 o2 vs n rest, @LT.lt Nat _ p.1 LL := fun p hp => by
  simp only [CK, List.mem_cons] at hp
  rcases hp with rfl | rfl | rfl | rfl | rfl | hp
  · exact a1
  · exact a2
  · exact a3
  · exact a4
  · exact a5
  · exact a6 p hp
theorem ck_fresh {led : Ledger} (h : ∀ p ∈ led, @LT.lt Nat _ p.1 LL) (h2 : ∀ q ∈ pre, @LE.le Nat _ LL q.1) : ∀ q ∈ pre, ∀ p ∈ led, p.1 < q.1 := fun q hq p hp => Nat.lt_of_lt_of_le (h p hp) (h2 q hq)
theorem all_nil {P : Addr × Obj → Prop} : ∀ q ∈ ([] : Ledger), P q := fun _ h => nomatch h
theorem all_cons {P : Addr × Obj → Prop} {a : Addr × Obj} {r : Ledger} (h : P a) (t : ∀ q ∈ r, P q) : ∀ q ∈ a :: r, P q := fun q hq => by
  rcases List.mem_cons.mp hq with rfl | hq
  · exact h
  · exact t q hq
end
section
variable {x l : Lab} (hx : ¬ x = .no) (hl : l ≠ .no)
include hx hl
theorem lab_4 (h : (x.text == l.text) = true) (h2 : (l.text != Str.ofString "_") = true) : true = (x == l && l != .u) := by
  rw [text_inj hx hl] at h
  rw [bne, text_u hl] at h2
  rw [h, bne, h2]
  rfl
theorem lab_5 (h2 : (l.text != Str.ofString "_") = false) : false = (x == l && l != .u) := by
  rw [bne, text_u hl] at h2
  rw [bne, h2, Bool.and_false]
end
theorem two_off {L x : Nat} (h : x < L) : L + 1 ≠ x ∧ L + 1 + 1 ≠ x := ⟨Nat.ne_of_gt (Nat.lt_succ_of_lt h), Nat.ne_of_gt (Nat.lt_succ_of_lt (Nat.lt_succ_of_lt h))⟩
theorem le_pre {L D : Nat} (h : L + 1 < D) : L ≤ D := Nat.le_of_lt (Nat.lt_of_succ_lt h)

local macro_rules | `(tactic| walk_at "exec Raise some none") => `(tactic| (k_here; (with_reducible show wpAny _ _ (exec (Stmt.Raise (some (Expr.Call (Expr.Name _ _) _ _ _)) none _) _) _ _ _); k_dflt (refine' raise_own ?hh ?_; (case hh => exact rfl))))
local macro_rules | `(tactic| walk_at "call ref") => `(tactic| (k_here; (with_reducible rename FaultOn _ _ _ _ _ _ _ _ _ => fo9); k_dflt (refine fo9 _ _ _ _ _ _ _ _ _ (by k_asm) (by k_asm) ?_)))
theorem fresh_InTop : True := by
  w_top off
  exact trivial
section
variable {prog : Program} {w : World} {A : Around} {E : Value → Shared → Prop} {s : Shared} {K : Frag} {h₀ : Heap} {L c : Addr} {m : Str → Option Value} {o : Obj} {vs : List Value} {n : Nat} {x : Value} {b : Bool} {Q : Value → Shared → Prop}
theorem top_tup (F : Fr h₀ L s.heap m) (X : K.In h₀) (ho : K.lookup c = some o) (hc : o.cls = .type "tuple") (hd : o.data = .seq vs.toArray n) : s.heap.IsTuple c vs.toArray := ⟨o, (X.keeps F.keep) _ _ ho, hc, n, hd⟩
theorem Ev.inT {k : Nat} (F : Fr h₀ L s.heap m) (X : K.In h₀) (ho : K.lookup c = some o) (hc : o.cls = .type "tuple") (hd : o.data = .seq vs.toArray n) (hs : ∀ y ∈ vs, Simple y) (hx : Simple x) (hb : vs.any (fun y => simEq y x) = b) : Ev prog w A s k (compareOp .In x (.ref c)) (.bool b) k :=
  .mk fun _ _ h => PySem.SeqAt.in_tupleAt (s := adv s k) (fun y => simEq y x) (top_tup F X ho hc hd) (fun y hy => simEq_at (hs y (by simpa using hy)) hx) (by rw [← hb] at h; simpa using h)
theorem Ev.niT {k : Nat} (F : Fr h₀ L s.heap m) (X : K.In h₀) (ho : K.lookup c = some o) (hc : o.cls = .type "tuple") (hd : o.data = .seq vs.toArray n) (hs : ∀ y ∈ vs, Simple y) (hx : Simple x) (hb : vs.any (fun y => simEq y x) = b) : Ev prog w A s k (compareOp .NotIn x (.ref c)) (.bool (!b)) k :=
  .mk fun _ _ h => PySem.SeqAt.notIn_tupleAt (s := adv s k) (fun y => simEq y x) (top_tup F X ho hc hd) (fun y hy => simEq_at (hs y (by simpa using hy)) hx) (by rw [← hb] at h; simpa using h)
theorem Ev.mG {k : Nat} {env : Env} {C : Addr} {scope : Scope} {cl : List (Str × Addr)} {xn : Str} {pos : Pos} {v : Value} {p : Program} {loose : List Str} {mean : ExcName → Option Value} {mg mb : Str → Option Value} (F : Fr h₀ L s.heap m) (X : K.In h₀) (T : Top p loose mean mg mb h₀) (hl : some .globalImplicit = (compEnvC scope cl C env).kindOf xn) (hk : ScopeKind.function = scope.kind) (hg : mainGlobals = env.globals) (hd : false = (xn == ("__debug__" : Str))) (e : nsIn K mainGlobals xn = some (some v)) :
    Ev prog w A s k (eval (.Name xn pos) (compEnvC scope cl C env)) v k := .mk fun _ _ h => LCgL.ld_global (s := adv s k) F X T e h hg.symm hk.symm hl.symm hd.symm
end
section
variable {t1 t2 t3 t4 t5 t : Tok} {k : Kd} {b : Bool}
theorem kw_loops : ([Value.str (Str.ofString "for") t1, .str (Str.ofString "range") t2].any fun y => simEq y (.str k.word t)) = k.loop := by
  cases k <;> simp only [List.any_cons, List.any_nil, simEq, Kd.word, Kd.loop] <;> decide
theorem kw_lead : ([Value.str (Str.ofString "break") t1, .str (Str.ofString "continue") t2].any fun y => simEq y (.str k.word t)) = false := by
  cases k <;> simp only [List.any_cons, List.any_nil, simEq, Kd.word] <;> decide
theorem kw_lead2 {brk : Bool} : ([Value.str (Str.ofString "break") t1, .str (Str.ofString "continue") t2].any fun y => simEq y (.str (leadWord brk) t)) = true := by
  cases brk <;> simp only [List.any_cons, List.any_nil, simEq, leadWord] <;> decide
theorem kw_left (h : k.left = b) : ([Value.str (Str.ofString "for") t1, .str (Str.ofString "range") t2, .str (Str.ofString "switch") t3, .str (Str.ofString "typeswitch") t4, .str (Str.ofString "choose") t5].any fun y => simEq y (.str k.word t)) = b := by
  subst h
  cases k <;> simp only [List.any_cons, List.any_nil, simEq, Kd.word, Kd.left] <;> decide
theorem kw_left2 {brk : Bool} : ([Value.str (Str.ofString "for") t1, .str (Str.ofString "range") t2, .str (Str.ofString "switch") t3, .str (Str.ofString "typeswitch") t4, .str (Str.ofString "choose") t5].any fun y => simEq y (.str (leadWord brk) t)) = false := by
  cases brk <;> simp only [List.any_cons, List.any_nil, simEq, leadWord] <;> decide
end
theorem sim2 {x y : Value} (h1 : Simple x) (h2 : Simple y) : ∀ z ∈ [x, y], Simple z := sim_cons h1 (sim_cons h2 sim_nil)
theorem sim5 {x y x2 y2 x3 : Value} (h1 : Simple x) (h2 : Simple y) (h3 : Simple x2) (h4 : Simple y2) (h5 : Simple x3) : ∀ z ∈ [x, y, x2, y2, x3], Simple z := sim_cons h1 (sim_cons h2 (sim_cons h3 (sim_cons h4 (sim_cons h5 sim_nil))))
/-- the lines for the top's tuples are not to be asked -/
structure NoTop : Prop where
theorem Ev.inU {prog : Program} {w : World} {A : Around} {s : Shared} {h₀ : Heap} {L l : Addr} {news : Ledger} {vs : List Value} {n k : Nat} {x : Value} {b : Bool} (N : News h₀ L s.heap news) (hm : (l, tupOf vs.toArray n) ∈ news) (hs : ∀ y ∈ vs, Simple y) (hx : Simple x) (hb : vs.any (fun y => simEq y x) = b) : Ev prog w A s k (compareOp .In x (.ref l)) (.bool b) k :=
  .mk fun _ _ h => PySem.SeqAt.in_tupleAt (s := adv s k) (fun y => simEq y x) ⟨_, (N _ hm).1, rfl, n, rfl⟩ (fun y hy => simEq_at (hs y (by simpa using hy)) hx) (by rw [← hb] at h; simpa using h)
theorem lab_key {w : World} {l : Lab} {lv : Value} (h : LabV l lv) (hn : l ≠ .no) : (SK w).is l.text lv = true := by obtain ⟨t, rfl⟩ := h.str hn; exact strKind_is _ _ _ _
section
variable {w : World} {A : Around} {s : Shared} {E : Value → Shared → Prop} {h₀ h : Heap} {L d : Addr} {m : Str → Option Value} {o : Obj} {news : Ledger} {kvs : List (Str × Value)} {x : Str} {key v : Value} {b : Bool} {k : Nat} {gs : Array GenState} {dr : Drawn} {tk : Nat} {os : OsState}
theorem Ev.inD (N : News h₀ L s.heap news) (hp : (d, o) ∈ news) (hd : o.IsDictOf (SK w) kvs) (lo : (d == sysModules) = false) (hkey : (SK w).is x key = true) (hb : (valueAt kvs x).isSome = b) : Ev PySem.Challenge.rw_xw0043_01.row.prog w A s k (compareOp .In key (.ref d)) (.bool b) k.succ :=
  .mk fun _ _ h => kda_in (s := adv s k) N hp hd lo hkey b hb h
theorem Ev.niD (N : News h₀ L s.heap news) (hp : (d, o) ∈ news) (hd : o.IsDictOf (SK w) kvs) (lo : (d == sysModules) = false) (hkey : (SK w).is x key = true) (hb : (valueAt kvs x).isSome = b) : Ev PySem.Challenge.rw_xw0043_01.row.prog w A s k (compareOp .NotIn key (.ref d)) (.bool (!b)) k.succ :=
  .mk fun _ _ h => kdg_notin (s := adv s k) N hp hd lo hkey b hb h
theorem set_own {gf : Obj → Ledger} {Qu : Unit → Shared → Prop} (F : Fr h₀ L h m) (N : News h₀ L h news) (U : UpdF d o news gf) (hd : o.IsDictOf (SK w) kvs) (hkey : (SK w).is x key = true) (hz : kvs.length ≤ 100)
    (hq : ∀ o', o'.IsDictOf (SK w) (stored kvs x v) → let n9 := gf o'; ∀ h' tk', Fr h₀ L h' m → News h₀ L h' n9 → Qu () ⟨h', gs, dr, tk', os⟩) : wpAny (model PySem.Challenge.rw_xw0043_01.row.prog w) A (setItem (.ref d) key v) Qu E ⟨h, gs, dr, tk, os⟩ :=
  kda_set (s := ⟨h, gs, dr, tk, os⟩) F N U hd hkey (Nat.le_trans hz (by decide)) fun h' o' F' N' hd' => hq o' hd' h' _ F' N'
end
theorem add_own {prog : Program} {w : World} {A : Around} {E : Value → Shared → Prop} {h : Heap} {gs : Array GenState} {dr : Drawn} {tk : Nat} {os : OsState} {x y : Str} {t u : Tok} {Q : Value → Shared → Prop} (hz : x.length + y.length ≤ sizeLine) (hq : ∀ t' tk', Q (.str (x ++ y) t') ⟨h, gs, dr, tk', os⟩) :
    wpAny (model prog w) A (binaryOp .Add (.str x t) (.str y u)) Q E ⟨h, gs, dr, tk, os⟩ := PyProof.Rows.add_str (s := ⟨h, gs, dr, tk, os⟩) (fun t' tk' => hq t' tk') hz
theorem fit_lead1 (brk : Bool) : (Str.ofString "a ").length + (leadWord brk).length ≤ sizeLine := by cases brk <;> exact Nat.le_of_ble_eq_true rfl
theorem fit_lead2 (brk : Bool) : (Str.ofString "a " ++ leadWord brk).length + (Str.ofString " that leads nowhere").length ≤ sizeLine := by cases brk <;> exact Nat.le_of_ble_eq_true rfl
theorem fit_lab1 (l : Lab) : (Str.ofString "the label ").length + l.text.length ≤ sizeLine := by cases l <;> exact Nat.le_of_ble_eq_true rfl
theorem fit_lab2 (l : Lab) : (Str.ofString "the label " ++ l.text).length + (Str.ofString " is told twice").length ≤ sizeLine := by cases l <;> exact Nat.le_of_ble_eq_true rfl
theorem fit_lab3 (l : Lab) : (Str.ofString "the label " ++ l.text).length + (Str.ofString " is not used").length ≤ sizeLine := by cases l <;> exact Nat.le_of_ble_eq_true rfl

local macro_rules | `(tactic| size_fits) => `(tactic| (first | exact sim2 trivial trivial | exact sim5 trivial trivial trivial trivial trivial))
local macro_rules | `(tactic| k_keys) => `(tactic| (first | exact kw_loops | exact kw_lead | exact kw_lead2 | exact kw_left (by assumption) | exact kw_left2 | exact (rfl : _ = true) | exact (rfl : _ = false)))
local macro_rules | `(tactic| walk_at "pe") => `(tactic| first | ((with_reducible apply Ev.inT); k_asm; k_asm; k_is; exact rfl; exact rfl; size_fits; exact trivial; k_keys) | ((with_reducible apply Ev.niT); k_asm; k_asm; k_is; exact rfl; exact rfl; size_fits; exact trivial; k_keys) | ((with_reducible apply Ev.inU); k_asm; (focus lge_bears); size_fits; exact trivial; k_keys) | ((with_reducible apply Ev.inD); k_asm; (focus lge_bears); assumption; assumption; (first | assumption | exact strKind_is _ _ _ _); assumption) | ((with_reducible apply Ev.niD); k_asm; (focus lge_bears); assumption; assumption; (first | assumption | exact strKind_is _ _ _ _); assumption) | ((with_reducible show Ev _ _ _ _ _ (eval (PySem.Expr.Name _ _) (compEnvC _ _ _ _)) _ _); apply Ev.mG; k_asm; k_asm; k_asm; exact rfl; exact rfl; exact rfl; exact rfl; k_is))
local macro_rules | `(tactic| walk_at "setItem ref") => `(tactic| (k_here; k_dflt (refine set_own (by k_asm) (by k_asm) (by k_updF) (by assumption) (by first | assumption | exact strKind_is _ _ _ _) (by assumption) ?_); intro o' hd' n9 h' tk' F' N'; (try k_sweep)))
local macro_rules | `(tactic| walk_at "setItem ref str") => `(tactic| (walk_at "setItem ref"))
local macro_rules | `(tactic| walk_at "binaryOp Add str str") => `(tactic| (k_here; k_dflt (refine add_own (by first | exact fit_lead1 _ | exact fit_lead2 _ | exact fit_lab1 _ | exact fit_lab2 _ | exact fit_lab3 _) ?_); k_whole; intro t' tk'))
local macro_rules | `(tactic| walk_at "getItem ref str") => `(tactic| (k_here; (with_reducible show wpAny _ _ (getItem (Value.ref _) (Value.str _ _)) _ _ _); k_dflt (refine kdt_getItem (knd := PySem.strKind _ _) (by k_asm) (by lge_bears) (by assumption) (strKind_is _ _ _ _) (by assumption) ?_; k_whole)))
theorem fresh_Inner : True := by
  w_top off
  exact trivial
section
theorem StmIn.head {nw : Ledger} {v : Value} {k : Kd} {i : Nat} {l : Lab} {ss : List Stm} (h : StmIn nw v (.made k i l ss)) :
    ∃ (a : Addr) (its : List Value) (n : Nat) (t1 t2 : Tok), v = .ref a ∧ (a, tupOf its.toArray n) ∈ nw ∧ its[0]? = some (.str k.word t1) ∧ its[1]? = some (.int (i : Int) t2) ∧ (k.left = true → ∃ lv, its[2]? = some lv ∧ LabV l lv) := by
  cases h with
  | block h => exact ⟨_, [_, _, _], _, _, _, rfl, h, rfl, rfl, fun h => nomatch h⟩
  | iff h => exact ⟨_, [_, _, _, _, _, _], _, _, _, rfl, h, rfl, rfl, fun h => nomatch h⟩
  | «for» h _ _ l => exact ⟨_, [_, _, _, _, _, _, _], _, _, _, rfl, h, rfl, rfl, fun _ => ⟨_, rfl, l⟩⟩
  | range h _ _ l => exact ⟨_, [_, _, _, _, _, _, _], _, _, _, rfl, h, rfl, rfl, fun _ => ⟨_, rfl, l⟩⟩
  | switch h _ _ _ l => exact ⟨_, [_, _, _, _, _, _], _, _, _, rfl, h, rfl, rfl, fun _ => ⟨_, rfl, l⟩⟩
  | typeswitch h _ _ _ l => exact ⟨_, [_, _, _, _, _, _, _], _, _, _, rfl, h, rfl, rfl, fun _ => ⟨_, rfl, l⟩⟩
  | choose h _ _ _ l => exact ⟨_, [_, _, _, _], _, _, _, rfl, h, rfl, rfl, fun _ => ⟨_, rfl, l⟩⟩
/-- what `inner_lists` hands back of a statement -/
noncomputable def InnerOf (nw : Ledger) : Stm → List Value → Prop
  | .lead _ _ _, bs => bs = []
  | .made _ _ _ ss, bs => ∃ b vs n, bs = [.ref b] ∧ (b, tupOf vs.toArray n) ∈ nw ∧ StmsIn nw vs ss
theorem fresh0 {news : Ledger} : ∀ q ∈ ([] : Ledger), ∀ p ∈ news, p.1 < q.1 := fun _ h => nomatch h
theorem fresh1 {D : Addr} {o : Obj} {tl news : Ledger} (h : ∀ p ∈ news, p.1 < D) (t : ∀ q ∈ tl, ∀ p ∈ news, p.1 < q.1) : ∀ q ∈ (D, o) :: tl, ∀ p ∈ news, p.1 < q.1 := fun q hq => by
  rcases List.mem_cons.mp hq with rfl | hq
  · exact h
  · exact t q hq
theorem fresh2 {D : Addr} {X news : Ledger} (h : ∀ p ∈ X, @LT.lt Nat _ p.1 D) (s : ∀ p ∈ news, p ∈ X) : ∀ p ∈ news, p.1 < D := fun p hp => h p (s p hp)
local macro_rules | `(tactic| k_all) => `(tactic| ((repeat (refine fresh1 ?_ ?_; · first | assumption | exact fresh2 (by assumption) (by k_slotset))); exact fresh0))
theorem fresh_app {a : Addr × Obj} {C B : Ledger} (h : ∀ q ∈ C, ∀ p ∈ a :: B, p.1 < q.1) (h1 : ∀ p ∈ B, p.1 < a.1) : ∀ q ∈ a :: C, ∀ p ∈ B, p.1 < q.1 := fun q hq p hp => by
  rcases List.mem_cons.mp hq with rfl | hq
  · exact h1 p hp
  · exact h q hq p (List.mem_cons_of_mem _ hp)
theorem Ev.lastT {prog : Program} {w : World} {A : Around} {s : Shared} {k : Nat} {value slice : PySem.Expr} {h₀ : Heap} {L l : Addr} {news : Ledger} {n : Nat} {u : Tok} {v0 v : Value} (N : News h₀ L s.heap news) (hm : (l, tupOf #[v0, v] n) ∈ news)
    (hs : ∀ l j u, subscripted slice false (.ref l) (.int j u) = operate [.ref l, .int j u] (getItem (.ref l) (.int j u))) : Ev prog w A s k (subscriptTail value slice (.ref l) (.int (-1) u)) v k := .mk fun _ _ h => by
  have ht : IsTup (adv s k).heap l #[v0, v] := ⟨_, (N _ hm).1, rfl, n, rfl⟩
  exact tail_any ht.typeIs slot_tuple_getitem.lookup (getItem_tuple (j := 1) ht (by decide) (by decide) rfl rfl h) (hs _ _ _)
local macro_rules | `(tactic| walk_at "pe") => `(tactic| ((with_reducible apply Ev.lastT); k_asm; (focus lge_bears); exact fun _ _ _ => rfl))
noncomputable def isRows : Kd → Bool
  | .switch | .typeswitch | .choose => true
  | _ => false
set_option maxRecDepth 100000 in
set_option maxHeartbeats 0 in
theorem rows {w : World} {v : Value} {k : Kd} {i : Nat} {l : Lab} {ss : List Stm} {news imm : Ledger} (hi : ∀ p ∈ imm, p ∈ news) (hs : StmIn imm v (.made k i l ss)) (hr : isRows k = true) :
    Con w 56 2 30 [v] news (fun K => ∀ tl c n2 x n3 b vs n, (∀ q ∈ tl, ∀ p ∈ news, p.1 < q.1) → (c, tupOf #[.ref x] n2) ∈ imm → (x, tupOf #[.none, .ref b] n3) ∈ imm → (b, tupOf (List.toArray vs) n) ∈ imm → StmsIn imm vs ss → K (.ref c) (tl ++ news)) := by
  cases hs with
  | block => exact absurd hr (by decide)
  | iff => exact absurd hr (by decide)
  | «for» => exact absurd hr (by decide)
  | range => exact absurd hr (by decide)
  | switch h1 h2 h3 h4 l5 h5 | typeswitch h1 h2 h3 h4 l5 h5 | choose h1 h2 h3 h4 l5 h5 =>
    replace h1 := hi _ h1
    refine' con_enter ?ho ?hcd ?hb ?hl ?hf ?_
    case ho => k_is
    case hcd => k_is
    case hb => exact fun _ => BindsTo.of_eq rfl
    case hl => exact rfl
    case hf => exact rfl
    intro p loose mean mg mb dp u gd outer A base g L h g9 d9 tk o9 K Q B X T hd hu hR hq e9 a9 m9 F N
    k_steps
    exact hq _ _ _ _ _ (by assumption) (by assumption) (hR [_] _ _ _ _ _ _ _ (fresh1 (by assumption) fresh0) h2 h3 h4 h5)
set_option maxRecDepth 100000 in
set_option maxHeartbeats 0 in
theorem inner {w : World} {v : Value} {s₁ : Stm} {news imm : Ledger} (hi : ∀ p ∈ imm, p ∈ news) (hs : StmIn imm v s₁) :
    Con w 61 4 60 [v] news (fun K => ∀ tl D k bs, (∀ q ∈ tl, ∀ p ∈ news, p.1 < q.1) → (D, listOf (List.toArray bs) k) ∈ tl → InnerOf imm s₁ bs → K (.ref D) (tl ++ news)) := by
  have hs' := hs
  by_cases hr9 : ∃ k i l ss, s₁ = .made k i l ss ∧ isRows k = true
  · obtain ⟨k, i, l, ss, rfl, hrk⟩ := hr9
    obtain ⟨st, its, n1, s1, s2, rfl, h1, i0, _, _⟩ := hs.head
    replace h1 := hi _ h1
    have e1 : (k.word == Str.ofString "block") = false := by cases k <;> first | decide | cases hrk
    have e2 : (k.word == Str.ofString "if") = false := by cases k <;> first | decide | cases hrk
    have e3 : (k.word == Str.ofString "for") = false := by cases k <;> first | decide | cases hrk
    have e4 : (k.word == Str.ofString "range") = false := by cases k <;> first | decide | cases hrk
    have e5 : ([Str.ofString "switch", Str.ofString "typeswitch", Str.ofString "choose"].any fun y => y == k.word) = true := by cases k <;> first | decide | cases hrk
    clear hs
    refine' con_enter ?ho ?hcd ?hb ?hl ?hf ?_
    case ho => k_is
    case hcd => k_is
    case hb => exact fun _ => BindsTo.of_eq rfl
    case hl => exact rfl
    case hf => exact rfl
    intro p loose mean mg mb dp u gd outer A base g L h g9 d9 tk o9 K Q B X T hd hu hR hq e9 a9 m9 F N
    k_steps
    all_goals try contradiction
    rename_i D1 o1 _ _ _ _ _ l1
    refine Con.use (by k_asm) (by k_asm) (by k_asm) rfl (by lgec_go) (by lgec_go) (by k_asm) (by k_asm) (rows (imm := imm) (by exact fun p hp => (show ∀ p ∈ news, p ∈ _ by k_slotset) p (hi p hp)) hs' hrk) ?_
    intro tl' c' n2' x' n3' b' vs' n' hf' hc' hx' hb' hv' n9 h' tk' F' N'
    have hc2 := hi _ hc'
    have hx2 := hi _ hx'
    have hx3 : (x', tupOf #[.none, .ref b'] n3') ∈ n9 := by k_slotget
    refine CompOver.tup (l := c') (vs := [.ref x']) (xs := [()]) (n := n2') (RR := (fun v _ => v = .ref x')) (p := (fun _ => true)) (g := (fun _ => .ref b')) rfl (by assumption) (by assumption) (by k_slotget) (Nat.le_of_ble_eq_true rfl) (.cons rfl .nil) ?_ ?_
    · rintro v x - rfl
      exact ⟨_, .name rfl, CompTurn.ev0 (by
        intro C s oC m₂ I oI D oD hC hb n9 F N
        have hb0 := hb _ (List.mem_singleton_self _)
        walk_at "pe")⟩
    · intro D h' tk n' lt F N
      refine setFN F N ?_
      intro m4 n4 F4 N4
      clear F N
      k_steps
      exact hq _ (((D, listOf (List.map (fun _ : Unit => Value.ref b') (List.filter (fun _ => true) [()])).toArray n') :: (D1, o1) :: tl') ++ news) _ _ _ F4 (N4.perm (by k_slotset)) (hR _ D _ [.ref b'] (fresh1 (ltSub lt (by k_slotset)) (fresh_app hf' l1)) List.mem_cons_self ⟨b', vs', _, rfl, hb', hv'⟩)
  · cases hs with
    | @lead a' brk i n l lv t1 t2 hm hl =>
      replace hm := hi _ hm
      cases brk <;> dsimp only [leadWord] at hm
      all_goals
        refine' con_enter ?ho ?hcd ?hb ?hl ?hf ?_
        case ho => k_is
        case hcd => k_is
        case hb => exact fun _ => BindsTo.of_eq rfl
        case hl => exact rfl
        case hf => exact rfl
        intro p loose mean mg mb dp u gd outer A base g L h g9 d9 tk o9 K Q B X T hd hu hR hq e9 a9 m9 F N
        k_steps
        exact hq _ _ _ _ _ (by assumption) (by assumption) (hR [_, _] _ _ [] (by k_all) List.mem_cons_self rfl)
    | block h1 h2 h3 =>
      replace h1 := hi _ h1
      refine' con_enter ?ho ?hcd ?hb ?hl ?hf ?_
      case ho => k_is
      case hcd => k_is
      case hb => exact fun _ => BindsTo.of_eq rfl
      case hl => exact rfl
      case hf => exact rfl
      intro p loose mean mg mb dp u gd outer A base g L h g9 d9 tk o9 K Q B X T hd hu hR hq e9 a9 m9 F N
      k_steps
      exact hq _ _ _ _ _ (by assumption) (by assumption) (hR [_] _ _ [_] (by k_all) List.mem_cons_self ⟨_, _, _, rfl, h2, h3⟩)
    | iff h1 h2 h3 h4 =>
      replace h1 := hi _ h1
      replace h2 := hi _ h2
      refine' con_enter ?ho ?hcd ?hb ?hl ?hf ?_
      case ho => k_is
      case hcd => k_is
      case hb => exact fun _ => BindsTo.of_eq rfl
      case hl => exact rfl
      case hf => exact rfl
      intro p loose mean mg mb dp u gd outer A base g L h g9 d9 tk o9 K Q B X T hd hu hR hq e9 a9 m9 F N
      k_steps
      exact hq _ _ _ _ _ (by assumption) (by assumption) (hR [_, _, _] _ _ [_] (by k_all) List.mem_cons_self ⟨_, _, _, rfl, h3, h4⟩)
    | «for» h1 h2 h3 l h4 =>
      replace h1 := hi _ h1
      replace h2 := hi _ h2
      refine' con_enter ?ho ?hcd ?hb ?hl ?hf ?_
      case ho => k_is
      case hcd => k_is
      case hb => exact fun _ => BindsTo.of_eq rfl
      case hl => exact rfl
      case hf => exact rfl
      intro p loose mean mg mb dp u gd outer A base g L h g9 d9 tk o9 K Q B X T hd hu hR hq e9 a9 m9 F N
      k_steps
      exact hq _ _ _ _ _ (by assumption) (by assumption) (hR [_] _ _ [_] (by k_all) List.mem_cons_self ⟨_, _, _, rfl, h3, h4⟩)
    | range h1 h2 h3 l h4 =>
      replace h1 := hi _ h1
      replace h2 := hi _ h2
      refine' con_enter ?ho ?hcd ?hb ?hl ?hf ?_
      case ho => k_is
      case hcd => k_is
      case hb => exact fun _ => BindsTo.of_eq rfl
      case hl => exact rfl
      case hf => exact rfl
      intro p loose mean mg mb dp u gd outer A base g L h g9 d9 tk o9 K Q B X T hd hu hR hq e9 a9 m9 F N
      k_steps
      exact hq _ _ _ _ _ (by assumption) (by assumption) (hR [_] _ _ [_] (by k_all) List.mem_cons_self ⟨_, _, _, rfl, h3, h4⟩)
    | switch _ _ _ _ _ _ | typeswitch _ _ _ _ _ _ | choose _ _ _ _ _ _ => exact absurd ⟨_, _, _, _, rfl, rfl⟩ hr9

end
theorem fresh_Lead : True := by
  w_top off
  exact trivial
theorem lead_pv (brk a : Bool) : ((leadWord brk == Str.ofString "break") || a) = (brk || a) := by
  cases brk
  · rw [show (leadWord false == Str.ofString "break") = false by decide]
  · rw [show (leadWord true == Str.ofString "break") = true by decide]
set_option maxRecDepth 100000 in
set_option maxHeartbeats 0 in
theorem lead (w : World) (x d td ud ol st : Addr) (t1 t2 t3 : Tok) (o1 o2 : Obj) (vs : List Value) (n k : Nat) (xs : List (Kd × Lab × Value)) (kv2 : List (Str × Value)) (brk : Bool) (i : Nat) (l : Lab) (lv : Value) (s1 s2 : Tok) (rest : Ledger)
    (hst : (st, tupOf #[.str (leadWord brk) s1, .int i s2, lv] k) ∈ rest) (hlab : LabV l lv) (hO : All2 (OpC rest) vs xs) (hleft : ∀ y ∈ xs, y.1.left = true) (h2 : o2.IsDictOf (SK w) kv2) (lo : (ud == sysModules) = false) (hz : vs.length ≤ 40) (hz2 : kv2.length ≤ 100) (ha : Apart x d td ud ol rest) :
    ConR w 101 4 80 [.ref x, .ref st] (CK w x d td ud ol t1 t2 t3 o1 o2 vs n rest)
      (fun r news' => r = .none ∧ hits brk l (opened xs) = true ∧ ∃ o2' tl, news' = CK w x d td ud ol t1 t2 t3 o1 o2' vs n (tl ++ rest) ∧ (∀ q ∈ tl, ∀ p ∈ CK w x d td ud ol t1 t2 t3 o1 o2 vs n rest, p.1 < q.1) ∧ o2'.IsDictOf (SK w) (if l = .no then kv2 else stored kv2 l.text (.bool true)))
      (fun i' news' => i' = i ∧ hits brk l (opened xs) = false ∧ ∀ p ∈ rest, p ∈ news') := by
  refine' conR_enter2 (x1 := Str.ofString "kind") (x2 := Str.ofString "label") ?ho ?hcd ?hb ?hl ?hf ?hd ?hc ?hn ?_
  case ho => k_is
  case hcd => k_is
  case hb => exact fun _ => BindsTo.of_eq rfl
  case hl => exact rfl
  case hf => exact rfl
  case hd => decide +kernel
  case hc => exact fun _ => rfl
  case hn => exact fun _ => ⟨rfl, rfl⟩
  intro p loose mean mg mb dp u gd outer A base g LL h g9 d9 tk o9 Q E oc1 oc2 B X T hd hu hq dc1 dc2 lL e9 a9 m9 n9 hP hE1 hE2 F N
  obtain ⟨a1, a2, a3, a4, a5, a6, a7, a8, a9', a10, r1, r2, r3, r4, r5⟩ := ha
  have c0 : @Ne Nat (LL + 1 + 1) (LL + 1) := Nat.succ_ne_self _
  have l1 : @LT.lt Nat _ x LL := by k_ne
  have l2 : @LT.lt Nat _ d LL := by k_ne
  have l3 : @LT.lt Nat _ td LL := by k_ne
  have l4 : @LT.lt Nat _ ud LL := by k_ne
  have l5 : @LT.lt Nat _ ol LL := by k_ne
  have l7 : ∀ p ∈ rest, @LT.lt Nat _ p.1 LL := ltSub lL (by k_slotset)
  obtain ⟨c1, e1⟩ := two_off l1
  obtain ⟨c2, e2⟩ := two_off l2
  obtain ⟨c3, e3⟩ := two_off l3
  obtain ⟨c4, e4⟩ := two_off l4
  obtain ⟨c5, e5⟩ := two_off l5
  have c6 : ∀ p ∈ rest, p.1 ≠ LL + 1 := fun p hp => Nat.ne_of_lt (Nat.lt_succ_of_lt (l7 p hp))
  have e6 : ∀ p ∈ rest, p.1 ≠ LL + 1 + 1 := fun p hp => Nat.ne_of_lt (Nat.lt_succ_of_lt (Nat.lt_succ_of_lt (l7 p hp)))
  have hsL := hlab.simple
  have hu9 : u + 77 < cLine := Nat.lt_of_lt_of_le hu (by decide)
  k_steps
  refine CompOver.list (l := ol) (vs := vs) (xs := vs.zip xs) (n := n) (RR := (fun v (y : Value × Kd × Lab × Value) => v = y.1 ∧ OpC rest v y.2)) (p := fun (y : Value × Kd × Lab × Value) => brk || y.2.1.loop) (g := fun (y : Value × Kd × Lab × Value) => y.1) rfl (by assumption) (by assumption) (by lge_bears) (Nat.le_trans hz (by decide)) (hO.zip) ?_ ?_
  · rintro v ⟨y0, yk, yl, yv⟩ - ⟨rfl, a, n, t, rfl, hy, hly⟩
    exact ⟨_, .name rfl, CompTurn.ev1 (lead_pv brk yk.loop) (by
      intro C s oC m₂ I oI D oD hC hb n9 F N
      have hb0 := hb _ (List.mem_singleton_self _)
      exact ⟨by walk_at "pe", by walk_at "pe"⟩)⟩
  · intro D h' tk n' lt F0 N0 h'' tk' F N
    clear F0 N0
    refine setFN F N ?_
    intro m5 n5 F5 N5
    clear F N
    k_steps
    ·
      --[L3
      rename (l != Lab.no) = true => hno'
      have hno : l ≠ .no := by simpa using hno'
      have hkey := lab_key (w := w) hlab hno
      k_steps
      refine CompOver.list (l := D) (n := n') (RR := (fun v (y : Value × Kd × Lab × Value) => v = y.1 ∧ OpC rest v y.2)) (p := fun (y : Value × Kd × Lab × Value) => y.2.2.1 == l && l != .u) (g := fun (y : Value × Kd × Lab × Value) => y.1) rfl (by assumption) (by assumption) (by lge_bears) ?_ (hO.sel) ?_ ?_
      · rw [List.length_map]
        refine Nat.le_trans (List.length_filter_le _ _) (Nat.le_trans ?_ (Nat.le_trans hz (by decide)))
        rw [List.length_zip]
        exact Nat.min_le_left _ _
      · rintro v ⟨y0, yk, yl, yv⟩ - ⟨rfl, a, n, t, rfl, hy, hly⟩
        exact ⟨_, .name rfl, CompTurn.ev1 rfl (by
          intro C s oC m₂ I oI D oD hC hb n9 F N
          have hb0 := hb _ (List.mem_singleton_self _)
          exact ⟨by walk_at "pe", by walk_at "pe"⟩)⟩
      · intro D2 h2 tk2 n2 lt2 F0 N0 h3 tk3 F N
        clear F0 N0
        have hemp := hits_c2 brk hno hO hleft
        refine setFN F N ?_
        intro m6 n6 F6 N6
        clear F N
        k_steps
        · rename_i _ _ _ _ _ F9 N9 l9 hh
          exact hq _ _ _ _ _ F9 (ck_ret (pre := [_, _, _, _, _]) N9) ⟨rfl, hh, _, _, rfl, ck_fresh (ck_lt l1 l2 l3 l4 l5 l7) (by ((repeat (refine all_cons ?_ ?_; · (dsimp only; first | exact Nat.le_succ _ | exact Nat.le_succ_of_le (Nat.le_succ _) | exact le_pre (by k_ne)))); exact all_nil)), by rw [if_neg hno]; assumption⟩
        · k_slotget
      --]L3
    · rename (l != Lab.no) = false => hno'
      rename List.isEmpty _ = true => hE
      have hno : l = .no := by simpa using hno'
      have hh : hits brk l (opened xs) = false := by rw [hits_c1 brk hO hleft, Bool.not_eq_true'] at hE; rw [hno]; exact hE
      exact hh
    · k_slotget
    · rename (l != Lab.no) = false => hno'
      rename List.isEmpty _ = false => hE
      have hno : l = .no := by simpa using hno'
      have hh : hits brk l (opened xs) = true := by rw [hits_c1 brk hO hleft, Bool.not_eq_false'] at hE; rw [hno]; exact hE
      exact hq _ _ _ _ _ (by assumption) (ck_ret (pre := [_, _, _, _]) (by assumption)) ⟨rfl, hh, o2, _, rfl, ck_fresh (ck_lt l1 l2 l3 l4 l5 l7) (by ((repeat (refine all_cons ?_ ?_; · (dsimp only; first | exact Nat.le_succ _ | exact Nat.le_succ_of_le (Nat.le_succ _) | exact le_pre (by k_ne)))); exact all_nil)), by rw [if_pos hno]; exact h2⟩

theorem fresh_ChkDef : True := by
  w_top off
  exact trivial
/-- the keys of a row without doubles that lie in another row are no more than it -/
theorem nodup_le {α : Type} [DecidableEq α] : ∀ (l K : List α), l.Nodup → (∀ x ∈ l, x ∈ K) → l.length ≤ K.length
  | [], _, _, _ => Nat.zero_le _
  | x :: l, K, hn, hs => by
    rw [List.nodup_cons] at hn
    have hx := hs x List.mem_cons_self
    have := nodup_le l (K.erase x) hn.2 fun y hy => (List.mem_erase_of_ne (fun e => by subst e; exact hn.1 hy)).mpr (hs y (List.mem_cons_of_mem _ hy))
    rw [List.length_erase_of_mem hx] at this
    have hp : 0 < K.length := List.length_pos_of_mem hx
    simp only [List.length_cons]
    omega
noncomputable def labs : List Str := [Str.ofString "A", Str.ofString "B", Str.ofString "_"]
theorem text_labs {l : Lab} (h : l ≠ .no) : l.text ∈ labs := by cases l <;> first | exact absurd rfl h | (simp [labs, Lab.text])
/-- the dict of the labels told -/
structure ToldD (w : World) (o : Obj) (told : List (Lab × Nat)) : Prop where
  is : ∃ ts : List (Lab × Nat × Tok), o.IsDictOf (SK w) (ts.map fun y => (y.1.text, Value.int (y.2.1 : Int) y.2.2)) ∧ told = ts.map fun y => (y.1, y.2.1)
  tells : ∀ y ∈ told, y.1.tells = true
/-- the dict of the labels led to -/
structure UsedD (w : World) (o : Obj) (led : List Lab) : Prop where
  is : ∃ kv : List (Str × Value), o.IsDictOf (SK w) kv ∧ (∀ l, l ≠ Lab.no → (valueAt kv l.text).isSome = led.contains l) ∧ ∀ y ∈ kv, y.1 ∈ labs
theorem dict_nodup {w : World} {o : Obj} {kv : List (Str × Value)} (h : o.IsDictOf (SK w) kv) : (kv.map (·.1)).Nodup := by
  obtain ⟨_, _, _, _, _, _, h⟩ := h
  exact h
theorem dict_le {w : World} {o : Obj} {kv : List (Str × Value)} (h : o.IsDictOf (SK w) kv) (hs : ∀ y ∈ kv, y.1 ∈ labs) : kv.length ≤ 3 := by
  have := nodup_le _ labs (dict_nodup h) (fun x hx => by
    obtain ⟨y, hy, rfl⟩ := List.mem_map.mp hx
    exact hs y hy)
  rw [List.length_map] at this
  exact this
theorem valueAt_map {ts : List (Lab × Nat × Tok)} {l : Lab} (hl : l ≠ .no) (ht : ∀ y ∈ ts, y.1 ≠ .no) : (valueAt (ts.map fun y => (y.1.text, Value.int (y.2.1 : Int) y.2.2)) l.text).isSome = ((ts.map fun y => (y.1, y.2.1)).map (·.1)).contains l := by
  induction ts with
  | nil => rfl
  | cons y r ih =>
    have h0 := ht y List.mem_cons_self
    have ih := ih fun z hz => ht z (List.mem_cons_of_mem _ hz)
    unfold valueAt at ih ⊢
    simp only [List.map_cons, List.find?_cons, List.contains_cons]
    have e : decide (y.1.text = l.text) = (l == y.1) := by
      rw [← text_inj hl h0]
      by_cases h : y.1.text = l.text
      · rw [h]; simp
      · rw [decide_eq_false h]
        symm
        exact beq_eq_false_iff_ne.mpr fun q => h q.symm
    rw [e]
    cases l == y.1
    · simpa using ih
    · rfl
theorem valueAt_stored {kv : List (Str × Value)} {k k' : Str} {v : Value} : (valueAt (stored kv k v) k').isSome = ((k' == k) || (valueAt kv k').isSome) := by
  unfold valueAt stored
  rw [Option.isSome_map, Option.isSome_map]
  by_cases h : (kv.any fun kv => decide (kv.1 = k)) = true
  · rw [if_pos h, List.find?_map, Option.isSome_map]
    have e : ((fun kv : Str × Value => decide (kv.1 = k')) ∘ fun kv => if kv.1 = k then (kv.1, v) else kv) = fun kv => decide (kv.1 = k') := by
      funext y
      simp only [Function.comp]
      have e1 : (if y.1 = k then (y.1, v) else y).1 = y.1 := by split <;> rfl
      simp only [e1]
    rw [e]
    by_cases hk : k' = k
    · subst hk
      have : (List.find? (fun kv => decide (kv.1 = k')) kv).isSome = true := by
        rw [List.find?_isSome]
        obtain ⟨y, hy, h⟩ := List.any_eq_true.mp h
        exact ⟨y, hy, h⟩
      rw [this]; simp
    · rw [beq_eq_false_iff_ne.mpr hk, Bool.false_or]
  · rw [if_neg h, List.find?_append]
    by_cases hk : k' = k
    · subst hk
      simp
    · have : List.find? (fun kv : Str × Value => decide (kv.1 = k')) [(k, v)] = none := by
        rw [List.find?_cons, decide_eq_false (fun e => hk e.symm)]
        rfl
      rw [this, Option.or_none, beq_eq_false_iff_ne.mpr hk, Bool.false_or]
theorem mem_stored {kv : List (Str × Value)} {k : Str} {v : Value} {y : Str × Value} (h : y ∈ stored kv k v) : y.1 = k ∨ ∃ z ∈ kv, z.1 = y.1 := by
  unfold stored at h
  split at h
  · obtain ⟨z, hz, rfl⟩ := List.mem_map.mp h
    refine .inr ⟨z, hz, ?_⟩
    split <;> rfl
  · rcases List.mem_append.mp h with h | h
    · exact .inr ⟨y, h, rfl⟩
    · rw [List.mem_singleton.mp h]; exact .inl rfl
theorem UsedD.more {w : World} {o' : Obj} {led : List Lab} {kv : List (Str × Value)} {l : Lab} {v : Value} (hl : l ≠ .no) (h2 : ∀ l, l ≠ Lab.no → (valueAt kv l.text).isSome = led.contains l) (h3 : ∀ y ∈ kv, y.1 ∈ labs)
    (h' : o'.IsDictOf (SK w) (stored kv l.text v)) : UsedD w o' (led ++ [l]) := by
  refine ⟨_, h', fun l' hl' => ?_, fun y hy => ?_⟩
  · rw [valueAt_stored, h2 l' hl', text_inj hl' hl]
    rw [Bool.eq_iff_iff]
    simp [or_comm]
  · rcases mem_stored hy with e | ⟨z, hz, e⟩
    · rw [e]; exact text_labs hl
    · rw [← e]; exact h3 z hz
theorem ToldD.more {w : World} {o' : Obj} {told : List (Lab × Nat)} {ts : List (Lab × Nat × Tok)} {l : Lab} {i : Nat} {t : Tok} (ht : told = ts.map fun y => (y.1, y.2.1)) (h2 : ∀ y ∈ told, y.1.tells = true) (hl : l.tells = true) (hn : (told.map (·.1)).contains l = false)
    (h' : o'.IsDictOf (SK w) (stored (ts.map fun y => (y.1.text, Value.int (y.2.1 : Int) y.2.2)) l.text (.int (i : Int) t))) : ToldD w o' (told ++ [(l, i)]) := by
  subst ht
  have hno : ∀ y ∈ ts, y.1 ≠ .no := fun y hy => tells_no (h2 (y.1, y.2.1) (List.mem_map.mpr ⟨y, hy, rfl⟩))
  refine ⟨⟨ts ++ [(l, i, t)], ?_, by simp⟩, fun y hy => ?_⟩
  · rw [PyProof.Rows.stored_absent] at h'
    · rw [List.map_append]; exact h'
    · have := valueAt_map (tells_no hl) hno
      rw [hn] at this
      simpa using this
  · rcases List.mem_append.mp hy with hy | hy
    · exact h2 y hy
    · rw [List.mem_singleton.mp hy]; exact hl
theorem ToldD.len {w : World} {o : Obj} {ts : List (Lab × Nat × Tok)} (h : o.IsDictOf (SK w) (ts.map fun y => (y.1.text, Value.int (y.2.1 : Int) y.2.2))) (h2 : ∀ y ∈ ts.map fun y => (y.1, y.2.1), y.1.tells = true) : (ts.map fun y => (y.1.text, Value.int (y.2.1 : Int) y.2.2)).length ≤ 3 :=
  dict_le h fun y hy => by
    obtain ⟨z, hz, rfl⟩ := List.mem_map.mp hy
    exact text_labs (tells_no (h2 (z.1, z.2.1) (List.mem_map.mpr ⟨z, hz, rfl⟩)))
/-- how deep the statements stand in one another -/
noncomputable def ht : Stm → Nat
  | .lead _ _ _ => 0
  | .made _ _ _ ss => hts ss + 1
where hts : List Stm → Nat
  | [] => 0
  | s :: r => max (ht s) (hts r)
/-- an address above the checker and the rest -/
noncomputable def Abv (x d td ud ol : Addr) (rest : Ledger) (y : Addr) : Prop := @LT.lt Nat _ x y ∧ @LT.lt Nat _ d y ∧ @LT.lt Nat _ td y ∧ @LT.lt Nat _ ud y ∧ @LT.lt Nat _ ol y ∧ ∀ p ∈ rest, @LT.lt Nat _ p.1 y
theorem Abv.of {w : World} {x d td ud ol y : Addr} {t1 t2 t3 : Tok} {o1 o2 : Obj} {vs : List Value} {n : Nat} {rest : Ledger} (h : ∀ p ∈ CK w x d td ud ol t1 t2 t3 o1 o2 vs n rest, p.1 < y) : Abv x d td ud ol rest y :=
  ⟨h (x, instObj 111 d) (by k_slotget), h (d, chkD w td ud ol t1 t2 t3) (by k_slotget), h (td, o1) (by k_slotget), h (ud, o2) (by k_slotget), h (ol, listOf vs.toArray n) (by k_slotget), fun p hp => h p (by k_slotget)⟩
theorem Abv.sub {x d td ud ol y : Addr} {rest rest' : Ledger} (h : Abv x d td ud ol rest' y) (hs : ∀ p ∈ rest, p ∈ rest') : Abv x d td ud ol rest y := ⟨h.1, h.2.1, h.2.2.1, h.2.2.2.1, h.2.2.2.2.1, fun p hp => h.2.2.2.2.2 p (hs p hp)⟩
theorem Abv.app {x d td ud ol : Addr} {rest a b : Ledger} (h1 : ∀ q ∈ a, Abv x d td ud ol rest q.1) (h2 : ∀ q ∈ b, Abv x d td ud ol rest q.1) : ∀ q ∈ a ++ b, Abv x d td ud ol rest q.1 := fun q hq => (List.mem_append.mp hq).elim (h1 q) (h2 q)
theorem Abv.ne {x d td ud ol : Addr} {rest tl : Ledger} (a : Apart x d td ud ol rest) (h : ∀ q ∈ tl, Abv x d td ud ol rest q.1) : Apart x d td ud ol (tl ++ rest) :=
  { a with
    rx := fun p hp => (List.mem_append.mp hp).elim (fun hp => Nat.ne_of_gt (h p hp).1) (a.rx p)
    rd := fun p hp => (List.mem_append.mp hp).elim (fun hp => Nat.ne_of_gt (h p hp).2.1) (a.rd p)
    rt := fun p hp => (List.mem_append.mp hp).elim (fun hp => Nat.ne_of_gt (h p hp).2.2.1) (a.rt p)
    ru := fun p hp => (List.mem_append.mp hp).elim (fun hp => Nat.ne_of_gt (h p hp).2.2.2.1) (a.ru p)
    ro := fun p hp => (List.mem_append.mp hp).elim (fun hp => Nat.ne_of_gt (h p hp).2.2.2.2.1) (a.ro p) }
/-- what a method of the checker leaves -/
inductive RunPost (w : World) (x d td ud ol : Addr) (t1 t2 t3 : Tok) (vs : List Value) (rest : Ledger) (res : Except Nat CS) : Value → Ledger → Prop
  | mk (c' : CS) (o1' o2' : Obj) (n' : Nat) (tl : Ledger) (hrun : res = .ok c') (hT : ToldD w o1' c'.told) (hU : UsedD w o2' c'.led) (hab : ∀ q ∈ tl, Abv x d td ud ol rest q.1) : RunPost w x d td ud ol t1 t2 t3 vs rest res .none (CK w x d td ud ol t1 t2 t3 o1' o2' vs n' (tl ++ rest))
/-- what a method of the checker does: it goes through what `run` tells, or raises at the spot that `run` tells -/
noncomputable def RunC (w : World) (f : Addr) (dn un N : Nat) (rest : Ledger) (arg : Value) (run : List (Kd × Lab) → CS → Except Nat CS) : Prop :=
  ∀ (x d td ud ol : Addr) (t1 t2 t3 : Tok) (o1 o2 : Obj) (vs : List Value) (n : Nat) (xs : List (Kd × Lab × Value)) (c : CS), Apart x d td ud ol rest → All2 (OpC rest) vs xs → (∀ y ∈ xs, y.1.left = true) → ToldD w o1 c.told → UsedD w o2 c.led → (td == sysModules) = false → (ud == sysModules) = false → vs.length + N ≤ 40 →
    ConR w f dn un [.ref x, arg] (CK w x d td ud ol t1 t2 t3 o1 o2 vs n rest)
      (RunPost w x d td ud ol t1 t2 t3 vs rest (run (opened xs) c))
      (fun i news' => (∃ j : Nat, i = j ∧ run (opened xs) c = .error j) ∧ ∀ p ∈ rest, p ∈ news')
theorem ck_assoc {w : World} {x d td ud ol : Addr} {t1 t2 t3 : Tok} {o1 o2 : Obj} {vs : List Value} {n : Nat} {rest a b c : Ledger} {h₀ h' : Heap} {L : Addr} (N : News h₀ L h' (a ++ CK w x d td ud ol t1 t2 t3 o1 o2 vs n (b ++ (c ++ rest)))) : News h₀ L h' (CK w x d td ud ol t1 t2 t3 o1 o2 vs n ((a ++ (b ++ c)) ++ rest)) := by
  have := ck_ret N
  rw [List.append_assoc, List.append_assoc]
  exact this
section
variable {w : World} {x d td ud ol I : Addr} {t1 t2 t3 : Tok} {o1 o2 o1' o2' oI : Obj} {vs : List Value} {n n' : Nat} {R tl tl3 rest : Ledger}
theorem Apart.one (a : Apart x d td ud ol rest) (h : ∀ p ∈ CK w x d td ud ol t1 t2 t3 o1 o2 vs n rest, p.1 ≠ I) : Apart x d td ud ol ([(I, oI)] ++ rest) :=
  have hx : x ≠ I := h (x, instObj 111 d) (by k_slotget)
  have hd : d ≠ I := h (d, chkD w td ud ol t1 t2 t3) (by k_slotget)
  have ht : td ≠ I := h (td, o1) (by k_slotget)
  have hu : ud ≠ I := h (ud, o2) (by k_slotget)
  have ho : ol ≠ I := h (ol, listOf vs.toArray n) (by k_slotget)
  { a with
    rx := all_cons (Ne.symm hx) a.rx
    rd := all_cons (Ne.symm hd) a.rd
    rt := all_cons (Ne.symm ht) a.rt
    ru := all_cons (Ne.symm hu) a.ru
    ro := all_cons (Ne.symm ho) a.ro }
theorem run_ne (h : ∀ p ∈ CK w x d td ud ol t1 t2 t3 o1 o2 vs n (tl ++ R), p.1 ≠ I) (h3 : ∀ q ∈ tl3, Abv x d td ud ol ([(I, oI)] ++ (tl ++ R)) q.1) : ∀ p ∈ CK w x d td ud ol t1 t2 t3 o1' o2' vs n' ((tl3 ++ tl) ++ R), p.1 ≠ I :=
  have hx : x ≠ I := h (x, instObj 111 d) (by k_slotget)
  have hd : d ≠ I := h (d, chkD w td ud ol t1 t2 t3) (by k_slotget)
  have ht : td ≠ I := h (td, o1) (by k_slotget)
  have hu : ud ≠ I := h (ud, o2) (by k_slotget)
  have ho : ol ≠ I := h (ol, listOf vs.toArray n) (by k_slotget)
  all_cons hx (all_cons hd (all_cons ht (all_cons hu (all_cons ho fun p hp => (List.mem_append.mp hp).elim (fun hp => (List.mem_append.mp hp).elim (fun hp => Nat.ne_of_gt ((h3 p hp).2.2.2.2.2 (I, oI) List.mem_cons_self)) fun hp => h p (by k_slotget)) fun hp => h p (by k_slotget)))))
theorem run_sub : ∀ p ∈ (I, oI) :: CK w x d td ud ol t1 t2 t3 o1 o2 vs n ((tl3 ++ tl) ++ R), p ∈ CK w x d td ud ol t1 t2 t3 o1 o2 vs n (tl3 ++ ([(I, oI)] ++ (tl ++ R))) := by k_slotset
theorem run_abv (h : ∀ q ∈ tl, Abv x d td ud ol R q.1) (h3 : ∀ q ∈ tl3, Abv x d td ud ol ([(I, oI)] ++ (tl ++ R)) q.1) : ∀ q ∈ tl3 ++ tl, Abv x d td ud ol R q.1 :=
  Abv.app (fun q hq => (h3 q hq).sub fun p hp => List.mem_append_right _ (List.mem_append_right _ hp)) h
theorem run_in : ∀ p ∈ R, p ∈ [(I, oI)] ++ (tl ++ R) := fun p hp => List.mem_append_right _ (List.mem_append_right _ hp)
end
/-- between the turns of a loop whose turns call a method of the checker -/
inductive LoopJ (w : World) (x d td ud ol : Addr) (t1 t2 t3 : Tok) (vs : List Value) (R : Ledger) (nm : Str) (m₀ : Str → Option Value) (st : Nat → CS → Prop) (i : Nat) (m : Str → Option Value) : Ledger → Prop
  | mk (hmm : ∀ y, y ≠ nm → m y = m₀ y) (c' : CS) (o1' o2' : Obj) (n' : Nat) (tl : Ledger) (hT : ToldD w o1' c'.told) (hU : UsedD w o2' c'.led) (hab : ∀ q ∈ tl, Abv x d td ud ol R q.1) (hst : st i c') : LoopJ w x d td ud ol t1 t2 t3 vs R nm m₀ st i m (CK w x d td ud ol t1 t2 t3 o1' o2' vs n' (tl ++ R))
theorem frSame {h₀ h : Heap} {L : Addr} {nm : Str} {m m₀ : Str → Option Value} {v : Value} (hm : ∀ y, y ≠ nm → m y = m₀ y) (F : Fr h₀ L h (setm nm v m)) : Fr h₀ L h (setm nm v m₀) := by
  have : setm nm v m = setm nm v m₀ := by
    funext y
    unfold setm
    by_cases h : y = nm
    · rw [if_pos h, if_pos h]
    · rw [if_neg h, if_neg h, hm y h]
  rw [← this]; exact F
theorem frSame' {m₀ : Str → Option Value} {nm : Str} {v : Value} : ∀ y, y ≠ nm → setm nm v m₀ y = m₀ y := fun y h => if_neg h
theorem iter_both {prog : Program} {w : World} {A : Around} {env : Env} {h₀ : Heap} {E : Value → Shared → Prop} {Q : Flow → Shared → Prop} {x : Str} {body : List Stmt} {hs : Heap} {g9 : Array GenState} {d9 : Drawn} {t9 : Nat} {o9 : OsState} {l : Addr} {vs : List Value} {n : Nat} {m : Str → Option Value} {nw₀ : Ledger} (J : Nat → (Str → Option Value) → Ledger → Prop)
    (hh : A.handled = none) (F : Fr h₀ env.locals hs m) (N : News h₀ env.locals hs nw₀) (hj : J 0 m nw₀) (hl : (∀ i m nw, J i m nw → (l, listOf vs.toArray n) ∈ nw) ∨ ∀ i m nw, J i m nw → (l, tupOf vs.toArray n) ∈ nw)
    (turn : ∀ I i v m₁ nw h tk oI, (∀ p ∈ nw₀, p.1 < I) → vs[i]? = some v → J i m₁ nw → (∀ p ∈ nw, p.1 ≠ I) → Fr h₀ env.locals h (setm x v m₁) → News h₀ env.locals h ((I, oI) :: nw) →
      wpAny (model prog w) A (execs body env) (TurnEnd h₀ env.locals I oI (J (i + 1)) ⟨hs, g9, d9, t9, o9⟩ Q) E ⟨h, g9, d9, tk, o9⟩)
    (done : ∀ m₁ nw h tk, J vs.length m₁ nw → Fr h₀ env.locals h m₁ → News h₀ env.locals h nw → Q .next ⟨h, g9, d9, tk, o9⟩) :
    wpAny (model prog w) A (pyIter (.ref l)) (fun it s₂ => LoopAtV prog w A h₀ env x body Q E it s₂) E ⟨hs, g9, d9, t9, o9⟩ := hl.elim (fun hl => iter_list J hh F N hj hl turn done) fun hl => iter_tup J hh F N hj hl turn done
theorem StmsIn.get {nw : Ledger} : ∀ {vs : List Value} {ss : List Stm}, StmsIn nw vs ss → ∀ {i : Nat} {v : Value}, vs[i]? = some v → ∃ s, ss[i]? = some s ∧ StmIn nw v s
  | _, _, .nil, i, v, h => by simp at h
  | _, _, .cons a t, i, v, h => by
    cases i with
    | zero => simp at h; subst h; exact ⟨_, by simp, a⟩
    | succ i => simp only [List.getElem?_cons_succ] at h ⊢; exact t.get h
theorem hts_get : ∀ {ss : List Stm} {i N : Nat} {s : Stm}, ss[i]? = some s → ht.hts ss ≤ N → ht s ≤ N
  | [], i, N, s, h, _ => by simp at h
  | a :: r, i, N, s, h, hn => by
    simp only [ht.hts] at hn
    cases i with
    | zero => simp at h; subst h; omega
    | succ i => simp only [List.getElem?_cons_succ] at h; exact hts_get h (by omega)
section
variable {ss : List Stm} {i j : Nat} {s : Stm} {op : List (Kd × Lab)} {c c' c'' : CS}
theorem chk_step (h : chkAll (ss.take i) op c = .ok c') (hs : ss[i]? = some s) (h2 : chk s op c' = .ok c'') : chkAll (ss.take (i + 1)) op c = .ok c'' := by
  have e : ss.take (i + 1) = ss.take i ++ [s] := by rw [List.take_add_one, hs]; rfl
  rw [e, chkAll_append, h]
  simp only [chkAll, h2]
theorem chk_err (h : chkAll (ss.take i) op c = .ok c') (hs : ss[i]? = some s) (h2 : chk s op c' = .error j) : chkAll ss op c = .error j := by
  obtain ⟨hl, he⟩ := List.getElem?_eq_some_iff.mp hs
  have e : ss = ss.take i ++ (s :: ss.drop (i + 1)) := by rw [← he, ← List.drop_eq_getElem_cons hl, List.take_append_drop]
  rw [e, chkAll_append, h]
  simp only [chkAll, h2]
end

theorem fresh_Stat : True := by
  w_top off
  exact trivial
theorem brk_in (brk : Bool) : ([Str.ofString "break", Str.ofString "continue"].any fun y => y == leadWord brk) = true := by cases brk <;> decide
theorem brk_notin (k : Kd) : ([Str.ofString "break", Str.ofString "continue"].any fun y => y == k.word) = false := by cases k <;> decide
theorem ck_in {w : World} {x d td ud ol : Addr} {t1 t2 t3 : Tok} {o1 o2 : Obj} {vs : List Value} {n : Nat} {rest a b : Ledger} {p : Addr × Obj} (h : p ∈ CK w x d td ud ol t1 t2 t3 o1 o2 vs n rest) : p ∈ CK w x d td ud ol t1 t2 t3 o1 o2 vs n (a ++ (b ++ rest)) := (by k_slotset : ∀ p ∈ CK w x d td ud ol t1 t2 t3 o1 o2 vs n rest, p ∈ CK w x d td ud ol t1 t2 t3 o1 o2 vs n (a ++ (b ++ rest))) p h
set_option maxRecDepth 100000 in
set_option maxHeartbeats 0 in
theorem stat_lead (w : World) (N : Nat) (rest : Ledger) (v : Value) (brk : Bool) (i : Nat) (l : Lab) (hv : StmIn rest v (.lead brk i l)) : RunC w 96 (12 * N + 12) (200 * N + 200) N rest v (chk (.lead brk i l)) := by
  intro x d td ud ol t1 t2 t3 o1 o2 vs n xs c ha hO hleft hT hU lo1 lo2 hz
  have hv' := hv
  cases hv with
  | @lead st _ _ k _ lv s1 s2 hst hlab =>
  obtain ⟨kv2, hd2, hl2, hk2⟩ := hU.is
  refine' conR_enter ?ho ?hcd ?hb ?hl ?hf ?_
  case ho => k_is
  case hcd => k_is
  case hb => exact fun _ => BindsTo.of_eq rfl
  case hl => exact rfl
  case hf => exact rfl
  intro p loose mean mg mb dp u gd outer A base g LL h g9 d9 tk o9 Q E B X T hd hu hq e9 a9 m9 hP hE1 hE2 F9 N9
  have hu9 : u + (200 * N + 197) < cLine := Nat.lt_of_lt_of_le hu (by decide)
  have hd9 : dp + (12 * N + 11) < recursionLimit := Nat.lt_trans hd (by decide)
  have ha' := ha
  obtain ⟨a1, a2, a3, a4, a5, a6, a7, a8, a9', a10, r1, r2, r3, r4, r5⟩ := ha
  have pk : ParkHere := ⟨⟩
  k_steps
  rename_i D1 o1' _ _ _ F2 N2 l8
  have c0 : Abv x d td ud ol rest D1 := Abv.of l8
  have ha2 := fun oD : Obj => Abv.ne (tl := [(D1, oD)]) ha' (all_cons c0 all_nil)
  have hsub := fun (oD : Obj) (p : Addr × Obj) (hp : p ∈ rest) => (List.mem_append_right [(D1, oD)] hp : p ∈ [(D1, oD)] ++ rest)
  refine ConR.use (by k_asm) (by k_asm) (by k_asm) rfl (lead w x d td ud ol st t1 t2 t3 o1 o2 vs n k xs kv2 brk i l lv s1 s2 _ (hsub _ _ hst) hlab (hO.imp (OpC.mono (hsub _))) hleft hd2 lo2 (by omega) (Nat.le_trans (dict_le hd2 hk2) (by decide)) (ha2 o1')) (by omega) (by omega) (by k_asm) (ck_ret (pre := [_]) N2) hE2 ?raise ?ret
  case raise =>
    rintro i' n' ⟨rfl, hh, hm⟩
    exact ⟨n', fun _ h => h, ⟨i, rfl, by simp only [chk, hh]; rfl⟩, fun p hp => hm p (hsub _ p hp)⟩
  case ret =>
    intro r n' hR
    obtain ⟨rfl, hR⟩ := hR
    refine hideG fun X9 k9 => ?_
    obtain ⟨hh, o2', tl, rfl, hfr, hd3⟩ := hR
    refine k9 ?_
    clear k9
    intro n9 h' tk' F3 N3
    k_steps
    have hrest : ∀ p ∈ rest, p ∈ n9 := fun p hp => by
      show p ∈ CK w x d td ud ol t1 t2 t3 o1 o2' vs n (tl ++ ([(D1, o1')] ++ rest))
      simp only [CK, List.mem_cons, List.mem_append, hp, or_true]
    refine Con.use (by k_asm) (by k_asm) (by k_asm) rfl (by lgec_go) (by lgec_go) (by k_asm) (by k_asm) (inner (imm := rest) hrest hv') ?_
    intro tl2 D2 k2 bs hf2 hD2 hin n8 h2 tk2 F4 N4
    obtain rfl : bs = [] := hin
    k_steps
    k_dflt (refine' iter_list (fun _ m9 nw => m9 = _ ∧ nw = _) ?hh F4 N4 ⟨rfl, rfl⟩ ?hl ?turn ?done; (case hh => exact rfl))
    case hl => rintro i m nw ⟨rfl, rfl⟩; exact List.mem_append_left _ hD2
    case turn => intro I i v m₁ nw h tk oI _ hv; cases hv
    case done =>
      intro m₁ nw h tk hJ F5 N5
      obtain ⟨rfl, rfl⟩ := hJ
      k_steps
      exact hq _ _ _ _ _ (by assumption) (ck_assoc (a := tl2) (b := tl) (c := [_]) (by assumption)) ⟨{ c with led := if l = .no then c.led else c.led ++ [l] }, o1, o2', n, _, by rw [chk, if_pos hh], hT, by
        dsimp only
        by_cases hl : l = .no
        · rw [if_pos hl] at hd3 ⊢
          exact ⟨kv2, hd3, hl2, hk2⟩
        · rw [if_neg hl] at hd3 ⊢
          exact UsedD.more hl hl2 hk2 hd3, Abv.app (fun q hq => Abv.of (w := w) (t1 := t1) (t2 := t2) (t3 := t3) (o1 := o1) (o2 := o2') (vs := vs) (n := n) fun p hp => hf2 q hq p (ck_in hp)) (Abv.app (fun q hq => (Abv.of (hfr q hq)).sub (hsub _)) (all_cons c0 all_nil))⟩

theorem fresh_All : True := by
  w_top off
  exact trivial
set_option maxRecDepth 100000 in
set_option maxHeartbeats 0 in
theorem all_of (w : World) (N : Nat) (hst : ∀ (rest : Ledger) (v : Value) (s : Stm), StmIn rest v s → ht s ≤ N → RunC w 96 (12 * N + 12) (200 * N + 200) N rest v (chk s)) (rest : Ledger) (a : Addr) (ws : List Value) (n9 : Nat) (ss : List Stm)
    (hm : (a, listOf ws.toArray n9) ∈ rest ∨ (a, tupOf ws.toArray n9) ∈ rest) (hs : StmsIn rest ws ss) (hN : ht.hts ss ≤ N) : RunC w 89 (12 * N + 18) (200 * N + 300) N rest (.ref a) (chkAll ss) := by
  intro x d td ud ol t1 t2 t3 o1 o2 vs n xs c ha hO hleft hT hU lo1 lo2 hz
  refine' conR_enter ?ho ?hcd ?hb ?hl ?hf ?_
  case ho => k_is
  case hcd => k_is
  case hb => exact fun _ => BindsTo.of_eq rfl
  case hl => exact rfl
  case hf => exact rfl
  intro p loose mean mg mb dp u gd outer A base g LL h g9 d9 tk o9' Q E B X T hd hu hq e9 a9 m9 hP hE1 hE2 F1 N1
  have pk : ParkHere := ⟨⟩
  k_steps
  with_unfolding_all refine' For_invVF F1 ?k1 ?k2 ?_
  case k1 => exact rfl
  case k2 => exact rfl
  k_steps
  have N1' : News g LL h (CK w x d td ud ol t1 t2 t3 o1 o2 vs n ([] ++ rest)) := N1
  k_dflt (refine' iter_both (vs := ws) (n := n9) (LoopJ w x d td ud ol t1 t2 t3 vs rest (Str.ofString "statement") _ (fun i c' => chkAll (ss.take i) (opened xs) c = .ok c')) ?hh F1 N1' ⟨fun _ _ => rfl, c, o1, o2, n, [], hT, hU, all_nil, by simp [chkAll]⟩ ?hl ?turn ?done; (case hh => exact rfl))
  case hl =>
    refine hm.imp (fun hm => ?_) fun hm => ?_
    all_goals
      rintro i m nw ⟨_, c', o1', o2', n', tl, _⟩
      simp only [CK, List.mem_cons, List.mem_append, hm, or_true]
  case turn =>
    clear F1 N1 N1'
    intro I i v m₁ nw h2 tk2 oI hlt hv hJ hne F2 N2
    refine hideG fun X9 k9 => ?_
    obtain ⟨hmm, c', o1', o2', n', tl, hT', hU', hab, hst'⟩ := hJ
    replace F2 := frSame hmm F2
    obtain ⟨s₁, hs₁, hin⟩ := hs.get hv
    have hap := Apart.one (oI := oI) (Abv.ne ha hab) hne
    refine k9 ?_
    refine setFN F2 N2 ?_
    intro m3 n3 F3 N3
    clear F2 N2 k9
    k_steps
    refine ConR.use (by k_asm) (by k_asm) (by k_asm) rfl (hst _ v s₁ (hin.mono run_in) (hts_get hs₁ hN) x d td ud ol t1 t2 t3 o1' o2' vs n' xs c' hap (hO.imp (OpC.mono run_in)) hleft hT' hU' lo1 lo2 hz) (by omega) (by omega) (by k_asm) (ck_ret (pre := [_]) N3) hE2 ?raise ?ret
    case raise =>
      rintro i' n' ⟨⟨j, rfl, hj⟩, hm2⟩
      exact ⟨n', fun _ h => h, ⟨j, rfl, chk_err hst' hs₁ hj⟩, fun p hp => hm2 p (run_in p hp)⟩
    case ret =>
      intro r n' hR
      refine hideG fun X9 k9 => ?_
      obtain ⟨c'', o1'', o2'', n'', tl3, hrun, hT'', hU'', hab3⟩ := hR
      refine k9 ?_
      clear k9
      intro n9 h' tk' F3 N3
      k_steps
      exact TurnEnd.of (nw := CK w x d td ud ol t1 t2 t3 o1'' o2'' vs n'' ((tl3 ++ tl) ++ rest)) (by assumption) (by assumption) run_sub (run_ne hne hab3) ⟨frSame', c'', o1'', o2'', n'', tl3 ++ tl, hT'', hU'', run_abv hab hab3, chk_step hst' hs₁ hrun⟩
  case done =>
    intro m₁ nw h2 tk2 hJ F3 N3
    refine hideG fun X9 k9 => ?_
    obtain ⟨hmm, c', o1', o2', n', tl, hT', hU', hab, hst'⟩ := hJ
    rw [hs.length, List.take_length] at hst'
    refine k9 ?_
    clear k9
    k_steps
    exact hq _ _ _ _ _ (by assumption) (by assumption) ⟨c', o1', o2', n', tl, hst', hT', hU', hab⟩

theorem fresh_Stat2 : True := by
  w_top off
  exact trivial
set_option maxRecDepth 100000 in
set_option maxHeartbeats 0 in
theorem stat_plain (w : World) (N : Nat) (hall : ∀ (rest : Ledger) (a : Addr) (ws : List Value) (n9 : Nat) (ss : List Stm), (a, tupOf ws.toArray n9) ∈ rest → StmsIn rest ws ss → ht.hts ss ≤ N → RunC w 89 (12 * N + 18) (200 * N + 300) N rest (.ref a) (chkAll ss))
    (rest : Ledger) (v : Value) (k : Kd) (i : Nat) (l : Lab) (ss : List Stm) (hv : StmIn rest v (.made k i l ss)) (hN : ht.hts ss ≤ N) (hkl : k.left = false) : RunC w 96 (12 * N + 24) (200 * N + 400) (N + 1) rest v (chk (.made k i l ss)) := by
  intro x d td ud ol t1 t2 t3 o1 o2 vs n xs c ha hO hleft hT hU lo1 lo2 hz
  obtain ⟨st, its, n1, s1, s2, rfl, hst, i0, i1, i2⟩ := hv.head
  have hrun : chk (.made k i l ss) (opened xs) c = chkAll ss (opened xs) c := by rw [chk, hkl]; rfl
  refine' conR_enter ?ho ?hcd ?hb ?hl ?hf ?_
  case ho => k_is
  case hcd => k_is
  case hb => exact fun _ => BindsTo.of_eq rfl
  case hl => exact rfl
  case hf => exact rfl
  intro p loose mean mg mb dp u gd outer A base g LL h g9 d9 tk o9' Q E B X T hd hu hq e9 a9 m9 hP hE1 hE2 F1 N1
  have hu9 : u + (200 * N + 397) < cLine := Nat.lt_of_lt_of_le hu (by decide)
  have hd9 : dp + (12 * N + 23) < recursionLimit := Nat.lt_trans hd (by decide)
  have pk : ParkHere := ⟨⟩
  k_steps
  rename_i D1 oD _ _ _ F2 N2 l8
  have c0 : Abv x d td ud ol rest D1 := Abv.of l8
  have hrest : ∀ p ∈ rest, p ∈ (D1, oD) :: CK w x d td ud ol t1 t2 t3 o1 o2 vs n rest := fun p hp => by simp only [CK, List.mem_cons, hp, or_true]
  refine Con.use (by k_asm) (by k_asm) (by k_asm) rfl (by lgec_go) (by lgec_go) (by k_asm) (by k_asm) (inner (imm := rest) hrest hv) ?_
  intro tl2 D2 k2 bs hf2 hD2 hin n8 h2 tk2 F4 N4
  refine hideG fun X9 k9 => ?_
  obtain ⟨b, ws, n9, hbs, hb, hws⟩ := hin
  subst hbs
  have N4' : News g LL h2 (CK w x d td ud ol t1 t2 t3 o1 o2 vs n ([] ++ ((tl2 ++ [(D1, oD)]) ++ rest))) := ck_ret (pre := tl2 ++ [(D1, oD)]) (by rw [List.append_assoc]; exact N4)
  have hfR : ∀ q ∈ tl2 ++ [(D1, oD)], Abv x d td ud ol rest q.1 := Abv.app (fun q hq => Abv.of (w := w) (t1 := t1) (t2 := t2) (t3 := t3) (o1 := o1) (o2 := o2) (vs := vs) (n := n) fun p hp => hf2 q hq p (List.mem_cons_of_mem _ hp)) (all_cons c0 all_nil)
  have haR := Abv.ne ha hfR
  have hR : ∀ p ∈ rest, p ∈ (tl2 ++ [(D1, oD)]) ++ rest := fun p hp => List.mem_append_right _ hp
  have hDR : (D2, listOf [Value.ref b].toArray k2) ∈ (tl2 ++ [(D1, oD)]) ++ rest := List.mem_append_left _ (List.mem_append_left _ hD2)
  generalize hRd : (tl2 ++ [(D1, oD)]) ++ rest = R at N4' hR haR hDR
  refine k9 ?_
  clear k9 N4 N2 F2
  k_steps
  k_dflt (refine' iter_list (vs := [.ref b]) (n := k2) (LoopJ w x d td ud ol t1 t2 t3 vs R (Str.ofString "inner") _ (fun i c' => i = 0 ∧ c' = c ∨ i = 1 ∧ chkAll ss (opened xs) c = .ok c')) ?hh F4 N4' ⟨fun _ _ => rfl, c, o1, o2, n, [], hT, hU, all_nil, .inl ⟨rfl, rfl⟩⟩ ?hl ?turn ?done; (case hh => exact rfl))
  case hl =>
    rintro i m nw ⟨_, c', o1', o2', n', tl, _⟩
    simp only [CK, List.mem_cons, List.mem_append, hDR, or_true]
  case turn =>
    clear F4 N4'
    intro I i v m₁ nw h tk oI hlt hv9 hJ hne F6 N6
    refine hideG fun X9 k9 => ?_
    obtain ⟨hmm, c', o1', o2', n', tl, hT', hU', hab, hst'⟩ := hJ
    replace F6 := frSame hmm F6
    obtain ⟨rfl, rfl⟩ : i = 0 ∧ v = .ref b := by
      cases i with
      | zero => exact ⟨rfl, by simpa using hv9.symm⟩
      | succ i => simp at hv9
    obtain rfl : c' = c := by rcases hst' with ⟨_, h⟩ | ⟨h, _⟩; exact h; cases h
    have hap := Apart.one (oI := oI) (Abv.ne haR hab) hne
    refine k9 ?_
    refine setFN F6 N6 ?_
    intro m3 n3 F3 N3
    clear F6 N6 k9
    k_steps
    refine ConR.use (by k_asm) (by k_asm) (by k_asm) rfl (hall _ b ws n9 ss (run_in _ (hR _ hb)) (hws.mono fun p hp => run_in _ (hR p hp)) hN x d td ud ol t1 t2 t3 o1' o2' vs n' xs c' hap (hO.imp (OpC.mono fun p hp => run_in _ (hR p hp))) hleft hT' hU' lo1 lo2 (by omega)) (by omega) (by omega) (by k_asm) (ck_ret (pre := [_]) N3) hE2 ?raise ?ret
    case raise =>
      rintro i' n' ⟨⟨j, rfl, hj⟩, hm2⟩
      exact ⟨n', fun _ h => h, ⟨j, rfl, by rw [hrun]; exact hj⟩, fun p hp => hm2 p (run_in p (hR p hp))⟩
    case ret =>
      intro r n' hR9
      refine hideG fun X9 k9 => ?_
      obtain ⟨c'', o1'', o2'', n'', tl3, hrun', hT'', hU'', hab3⟩ := hR9
      refine k9 ?_
      clear k9
      intro n9 h' tk' F5 N5
      k_steps
      exact TurnEnd.of (nw := CK w x d td ud ol t1 t2 t3 o1'' o2'' vs n'' ((tl3 ++ tl) ++ R)) (by assumption) (by assumption) run_sub (run_ne hne hab3) ⟨frSame', c'', o1'', o2'', n'', tl3 ++ tl, hT'', hU'', run_abv hab hab3, .inr ⟨rfl, hrun'⟩⟩
  case done =>
    intro m₁ nw h tk hJ F3 N3
    refine hideG fun X9 k9 => ?_
    obtain ⟨hmm, c', o1', o2', n', tl, hT', hU', hab, hst'⟩ := hJ
    obtain hst' : chkAll ss (opened xs) c = .ok c' := by rcases hst' with ⟨h, _⟩ | ⟨_, h⟩; cases h; exact h
    refine k9 ?_
    clear k9
    k_steps
    subst hRd
    refine hq _ _ _ _ _ (by assumption) (N3.perm fun p hp => ?_) ⟨c', o1', o2', n', tl ++ (tl2 ++ [(D1, oD)]), hrun.trans hst', hT', hU', Abv.app (fun q hq => (hab q hq).sub hR) hfR⟩
    rw [List.append_assoc] at hp
    exact hp

theorem fresh_Stat3 : True := by
  w_top off
  exact trivial
section
/-- where a statement with a label stands behind the asking of its label -/
inductive LabMid (w : World) (x d td ud ol : Addr) (t1 t2 t3 : Tok) (o2 : Obj) (vs : List Value) (n : Nat) (rest : Ledger) (kw : Str) (lv v : Value) (led : List Lab) (res : CS → Prop) (m : Str → Option Value) : Ledger → Prop
  | mk (D1 : Addr) (oD o1N : Obj) (c9 : CS) (tkk : Tok) (hap0 : Abv x d td ud ol rest D1) (hT9 : ToldD w o1N c9.told) (hU9 : UsedD w o2 c9.led) (hres : res c9)
      (m1 : m (Str.ofString "self") = some (.ref x)) (m2 : m (Str.ofString "kind") = some (.str kw tkk)) (m3 : m (Str.ofString "label") = some lv) (m4 : m (Str.ofString "statement") = some v) :
      LabMid w x d td ud ol t1 t2 t3 o2 vs n rest kw lv v led res m ((D1, oD) :: CK w x d td ud ol t1 t2 t3 o1N o2 vs n rest)
theorem frSet4 {h₀ h : Heap} {L : Addr} {m : Str → Option Value} {x y z q : Str} {u v t r : Value} (F : Fr h₀ L h m) (e1 : m x = some u) (e2 : m y = some v) (e3 : m z = some t) (e4 : m q = some r) : Fr h₀ L h (setm q r (setm z t (setm y v (setm x u m)))) := (setm_id e1).symm ▸ frSet3 F e2 e3 e4
theorem tells_ne (l : Lab) : (l != .no && l != .u) = l.tells := by cases l <;> rfl
theorem split_cutL {M : Model} {A : Around} {E : Value → Shared → Prop} {env : Env} {Q : Flow → Shared → Prop} {g : Heap} {L : Addr} {h : Heap} {g9 : Array GenState} {d9 : Drawn} {tk : Nat} {o9 : OsState} (l B : List Stmt) (P : (Str → Option Value) → Ledger → Prop)
    (h1 : wpAny M A (execs l env) (CutPost g L ⟨h, g9, d9, tk, o9⟩ P) E ⟨h, g9, d9, tk, o9⟩)
    (h2 : ∀ h' tk' m nw, P m nw → Fr g L h' m → News g L h' nw → wpAny M A (execs B env) Q E ⟨h', g9, d9, tk', o9⟩) : wpAny M A (execs (l ++ B) env) Q E ⟨h, g9, d9, tk, o9⟩ := split_cut l B P h1 h2
theorem add_lab {prog : Program} {w : World} {A : Around} {E : Value → Shared → Prop} {h : Heap} {gs : Array GenState} {dr : Drawn} {tk : Nat} {os : OsState} {x : Str} {t : Tok} {l : Lab} {lv : Value} {Q : Value → Shared → Prop} (hlab : LabV l lv) (hno : l ≠ .no) (hz : x.length + l.text.length ≤ sizeLine) (hq : ∀ t' tk', Q (.str (x ++ l.text) t') ⟨h, gs, dr, tk', os⟩) :
    wpAny (model prog w) A (binaryOp .Add (.str x t) lv) Q E ⟨h, gs, dr, tk, os⟩ := by
  obtain ⟨u, rfl⟩ := hlab.str hno
  exact add_own hz hq
local macro_rules | `(tactic| walk_at "binaryOp Add str") => `(tactic| (k_here; k_dflt (refine add_lab (by assumption) (by assumption) (fit_lab1 _) ?_); k_whole; intro t' tk'))
set_option maxRecDepth 100000 in
set_option maxHeartbeats 0 in
theorem stat_label (w : World) (N : Nat) (hall : ∀ (rest : Ledger) (a : Addr) (ws : List Value) (n9 : Nat) (ss : List Stm), (a, tupOf ws.toArray n9) ∈ rest → StmsIn rest ws ss → ht.hts ss ≤ N → RunC w 89 (12 * N + 18) (200 * N + 300) N rest (.ref a) (chkAll ss))
    (rest : Ledger) (v : Value) (k : Kd) (i : Nat) (l : Lab) (ss : List Stm) (hv : StmIn rest v (.made k i l ss)) (hN : ht.hts ss ≤ N) (hkl : k.left = true) : RunC w 96 (12 * N + 24) (200 * N + 400) (N + 1) rest v (chk (.made k i l ss)) := by
  intro x d td ud ol t1 t2 t3 o1 o2 vs n xs c ha hO hleft hT hU lo1 lo2 hz
  obtain ⟨st, its, n1, s1, s2, rfl, hst, i0, i1, i2⟩ := hv.head
  obtain ⟨lv, i2, hlab⟩ := i2 hkl
  refine' conR_enter ?ho ?hcd ?hb ?hl ?hf ?_
  case ho => k_is
  case hcd => k_is
  case hb => exact fun _ => BindsTo.of_eq rfl
  case hl => exact rfl
  case hf => exact rfl
  intro p loose mean mg mb dp u gd outer A base g LL h g9 d9 tk o9' Q E B X T hd hu hq e9 a9 m9 hP hE1 hE2 F1 N1
  have hu9 : u + (200 * N + 397) < cLine := Nat.lt_of_lt_of_le hu (by decide)
  have hd9 : dp + (12 * N + 23) < recursionLimit := Nat.lt_trans hd (by decide)
  have ha' := ha
  obtain ⟨a1, a2, a3, a4, a5, a6, a7, a8, a9', a10, r1, r2, r3, r4, r5⟩ := ha
  have hvz : vs.length ≤ 1000 := Nat.le_trans (Nat.le_trans (Nat.le_add_right _ _) hz) (by decide)
  refine' split_cutL (g := g) (L := LL) [_, _, _, _, _] _ (LabMid w x d td ud ol t1 t2 t3 o2 vs n rest k.word lv (.ref st) c.led (fun c9 => chk (.made k i l ss) (opened xs) c = chkAll ss ((k, l) :: opened xs) c9)) ?before ?behind
  case before =>
    --[A
    obtain ⟨⟨ts, hd1, hts⟩, htl⟩ := id hT
    have hz1 : (ts.map fun y => (y.1.text, Value.int (y.2.1 : Int) y.2.2)).length ≤ 100 := Nat.le_trans (ToldD.len hd1 (hts ▸ htl)) (by decide)
    k_steps
    · rename (l != Lab.no && l != Lab.u) = true => hlt'
      rw [tells_ne] at hlt'
      have hno := tells_no hlt'
      have hkey := lab_key (w := w) hlab hno
      have hin := valueAt_map (ts := ts) hno (fun y hy => tells_no (htl (y.1, y.2.1) (by rw [hts]; exact List.mem_map.mpr ⟨y, hy, rfl⟩)))
      rw [← hts] at hin
      k_steps
      · rename List.contains _ _ = true => hc
        rw [chk, if_pos hkl, hlt', hc]; rfl
      · k_slotget
      · rename List.contains _ _ = false => hc
        have hrun : chk (.made k i l ss) (opened xs) c = chkAll ss ((k, l) :: opened xs) { c with told := c.told ++ [(l, i)] } := by rw [chk, if_pos hkl, hlt', hc]; rfl
        exact split_end (by assumption) (by assumption) (.mk _ _ _ { c with told := c.told ++ [(l, i)] } _ (Abv.of (by assumption)) (ToldD.more hts htl hlt' hc (by assumption)) hU hrun rfl rfl rfl rfl)
    · rename (l != Lab.no && l != Lab.u) = false => hlt'
      rw [tells_ne] at hlt'
      have hrun : chk (.made k i l ss) (opened xs) c = chkAll ss ((k, l) :: opened xs) c := by rw [chk, if_pos hkl, hlt']; rfl
      exact split_end (by assumption) (by assumption) (.mk _ _ _ c _ (Abv.of (by assumption)) hT hU hrun rfl rfl rfl rfl)
    --]A
  case behind =>
    --[B
    intro h' tk' m' nw' hP9 F2 N2
    refine hideG fun X9 k9 => ?_
    obtain ⟨D1, oD0, o1N, c9, tkk, hap0, hT9, hU9, hrun, m1, m2, m3, m4⟩ := hP9
    replace F2 := frSet4 F2 m1 m2 m3 m4
    have e5 : @Ne Nat ol D1 := Nat.ne_of_lt hap0.2.2.2.2.1
    refine k9 ?_
    refine setFN F2 N2 ?_
    intro m3 n3 F3 N3
    clear F2 F1 N1 N2 k9
    have pk : ParkHere := ⟨⟩
    k_steps
    rename_i T' oT _ _ _ l9 _ _ F2 N2
    have hapT : Abv x d td ud ol rest T' := Abv.of fun p hp => l9 p (List.mem_cons_of_mem _ hp)
    refine Con.use (by k_asm) (by k_asm) (by k_asm) rfl (by lgec_go) (by lgec_go) (by k_asm) (by k_asm) (inner (imm := rest) (by exact (show ∀ p ∈ rest, p ∈ _ by k_slotset)) hv) ?_
    intro tl2 D2 k2 bs hf2 hD2 hin n8 h2 tk2 F4 N4
    refine hideG fun X9 k9 => ?_
    obtain ⟨b, ws, n9', hbs, hb, hws⟩ := hin
    subst hbs
    have N4' : News g LL h2 (CK w x d td ud ol t1 t2 t3 o1N o2 (vs ++ [.ref T']) (n + 1) ([] ++ ((tl2 ++ [(T', tupOf #[lv, .str k.word tkk] 0), (D1, oD0)]) ++ rest))) := ck_ret (pre := tl2 ++ [(T', tupOf #[lv, .str k.word tkk] 0), (D1, oD0)]) (by rw [List.append_assoc]; exact N4)
    have hfR : ∀ q ∈ tl2 ++ [(T', tupOf #[lv, .str k.word tkk] 0), (D1, oD0)], Abv x d td ud ol rest q.1 := Abv.app (fun q hq => Abv.of (w := w) (t1 := t1) (t2 := t2) (t3 := t3) (o1 := o1N) (o2 := o2) (vs := vs ++ [.ref T']) (n := n + 1) fun p hp => hf2 q hq p (List.mem_cons_of_mem _ (List.mem_cons_of_mem _ hp))) (all_cons hapT (all_cons hap0 all_nil))
    have haR := Abv.ne ha' hfR
    have hR : ∀ p ∈ rest, p ∈ (tl2 ++ [(T', tupOf #[lv, .str k.word tkk] 0), (D1, oD0)]) ++ rest := fun p hp => List.mem_append_right _ hp
    have hDR : (D2, listOf [Value.ref b].toArray k2) ∈ (tl2 ++ [(T', tupOf #[lv, .str k.word tkk] 0), (D1, oD0)]) ++ rest := List.mem_append_left _ (List.mem_append_left _ hD2)
    have hTR : (T', tupOf #[lv, .str k.word tkk] 0) ∈ (tl2 ++ [(T', tupOf #[lv, .str k.word tkk] 0), (D1, oD0)]) ++ rest := List.mem_append_left _ (List.mem_append_right _ List.mem_cons_self)
    generalize hRd : (tl2 ++ [(T', tupOf #[lv, .str k.word tkk] 0), (D1, oD0)]) ++ rest = R at N4' hR haR hDR hTR
    have hO' : All2 (OpC R) (vs ++ [.ref T']) (xs ++ [(k, l, lv)]) := (hO.imp (OpC.mono hR)).append (.cons ⟨T', 0, tkk, rfl, hTR, hlab⟩ .nil)
    have hleft' : ∀ y ∈ xs ++ [(k, l, lv)], y.1.left = true := fun y hy => by
      rcases List.mem_append.mp hy with hy | hy
      · exact hleft y hy
      · rw [List.mem_singleton.mp hy]; exact hkl
    have hop : opened (xs ++ [(k, l, lv)]) = (k, l) :: opened xs := by simp [opened]
    refine k9 ?_
    clear k9 N4 N2 F2
    k_steps
    k_dflt (refine' iter_list (vs := [.ref b]) (n := k2) (LoopJ w x d td ud ol t1 t2 t3 (vs ++ [.ref T']) R (Str.ofString "inner") _ (fun i9 c' => i9 = 0 ∧ c' = c9 ∨ i9 = 1 ∧ chkAll ss ((k, l) :: opened xs) c9 = .ok c')) ?hh F4 N4' ⟨fun _ _ => rfl, c9, o1N, o2, n + 1, [], hT9, hU9, all_nil, .inl ⟨rfl, rfl⟩⟩ ?hl ?turn ?done; (case hh => exact rfl))
    case hl =>
      rintro i9 m nw ⟨_, c', o1', o2', n', tl, _⟩
      simp only [CK, List.mem_cons, List.mem_append, hDR, or_true]
    case turn =>
      clear F4 N4'
      intro I i9 v m₁ nw h tk oI hlt hv9 hJ hne F6 N6
      refine hideG fun X9 k9 => ?_
      obtain ⟨hmm, c', o1', o2', n', tl, hT', hU', hab, hst'⟩ := hJ
      replace F6 := frSame hmm F6
      obtain ⟨rfl, rfl⟩ : i9 = 0 ∧ v = .ref b := by
        cases i9 with
        | zero => exact ⟨rfl, by simpa using hv9.symm⟩
        | succ i9 => simp at hv9
      have hcc : c' = c9 := by rcases hst' with ⟨_, h⟩ | ⟨h, _⟩; exact h; cases h
      rw [hcc] at hT' hU'
      have hap := Apart.one (oI := oI) (Abv.ne haR hab) hne
      refine k9 ?_
      refine setFN F6 N6 ?_
      intro m3 n3 F3 N3
      clear F6 N6 k9
      k_steps
      refine ConR.use (by k_asm) (by k_asm) (by k_asm) rfl (hall _ b ws n9' ss (run_in _ (hR _ hb)) (hws.mono fun p hp => run_in _ (hR p hp)) hN x d td ud ol t1 t2 t3 o1' o2' (vs ++ [.ref T']) n' (xs ++ [(k, l, lv)]) c9 hap (hO'.imp (OpC.mono run_in)) hleft' hT' hU' lo1 lo2 (by simp only [List.length_append, List.length_cons, List.length_nil]; omega)) (by omega) (by omega) (by k_asm) (ck_ret (pre := [_]) N3) hE2 ?raise ?ret
      case raise =>
        rintro i' n' ⟨⟨j, rfl, hj⟩, hm2⟩
        rw [hop] at hj
        exact ⟨n', fun _ h => h, ⟨j, rfl, by rw [hrun]; exact hj⟩, fun p hp => hm2 p (run_in p (hR p hp))⟩
      case ret =>
        intro r n' hR9
        refine hideG fun X9 k9 => ?_
        obtain ⟨c'', o1'', o2'', n'', tl3, hrun', hT'', hU'', hab3⟩ := hR9
        rw [hop] at hrun'
        refine k9 ?_
        clear k9
        intro n9 h' tk' F5 N5
        k_steps
        exact TurnEnd.of (nw := CK w x d td ud ol t1 t2 t3 o1'' o2'' (vs ++ [.ref T']) n'' ((tl3 ++ tl) ++ R)) (by assumption) (by assumption) run_sub (run_ne hne hab3) ⟨frSame', c'', o1'', o2'', n'', tl3 ++ tl, hT'', hU'', run_abv hab hab3, .inr ⟨rfl, hrun'⟩⟩
    case done =>
      clear F4 N4'
      intro m₁ nw h tk hJ F3 N3
      refine hideG fun X9 k9 => ?_
      obtain ⟨hmm, c', o1', o2', n', tl, hT', hU', hab, hst'⟩ := hJ
      obtain hst' : chkAll ss ((k, l) :: opened xs) c9 = .ok c' := by rcases hst' with ⟨h, _⟩ | ⟨_, h⟩; cases h; exact h
      have hself : m₁ (Str.ofString "self") = some (.ref x) := hmm _ (by decide)
      obtain ⟨_, _, _, _, _, _, _, _, _, _, rr1, rr2, rr3, rr4, rr5⟩ := Abv.ne haR hab
      refine k9 ?_
      clear k9
      refine setFN (frSet F3 hself) N3 ?_
      intro m5 n5 F5 N5
      clear F3 N3
      k_steps
      subst hRd
      refine hq _ _ _ _ _ (by assumption) (News.perm (news := CK w x d td ud ol t1 t2 t3 o1' o2' vs (n' + 1) (tl ++ ((tl2 ++ [(T', tupOf #[lv, .str k.word tkk] 0), (D1, oD0)]) ++ rest))) (by assumption) fun p hp => ?_) ⟨c', o1', o2', n' + 1, tl ++ (tl2 ++ [(T', tupOf #[lv, .str k.word tkk] 0), (D1, oD0)]), hrun.trans hst', hT', hU', Abv.app (fun q hq => (hab q hq).sub hR) hfR⟩
      rw [List.append_assoc] at hp
      exact hp
    --]B
theorem checks (w : World) : ∀ (N : Nat) (rest : Ledger) (v : Value) (s : Stm), StmIn rest v s → ht s ≤ N → RunC w 96 (12 * N + 12) (200 * N + 200) N rest v (chk s)
  | N, rest, v, .lead brk i l, h, _ => stat_lead w N rest v brk i l h
  | 0, rest, v, .made k i l ss, h, hN => absurd hN (by simp [ht])
  | N + 1, rest, v, .made k i l ss, h, hN => by
    have hN' : ht.hts ss ≤ N := by simp only [ht] at hN; omega
    have e1 : 12 * (N + 1) + 12 = 12 * N + 24 := by omega
    have e2 : 200 * (N + 1) + 200 = 200 * N + 400 := by omega
    rw [e1, e2]
    have hall := fun (rest : Ledger) (a : Addr) (ws : List Value) (n9 : Nat) (ss : List Stm) (hm : (a, tupOf ws.toArray n9) ∈ rest) => all_of w N (checks w N) rest a ws n9 ss (.inr hm)
    cases hk : k.left with
    | true => exact stat_label w N hall rest v k i l ss h hN' hk
    | false => exact stat_plain w N hall rest v k i l ss h hN' hk

end
theorem fresh_Used : True := by
  w_top off
  exact trivial
/-- a dict by texts of the ledger, its keys gone through -/
theorem iter_dict {prog : Program} {w : World} {A : Around} {hs : Heap} {g9 : Array GenState} {d9 : Drawn} {t9 : Nat} {o9 : OsState} {env : Env} {h₀ : Heap} {E : Value → Shared → Prop} {Q : Flow → Shared → Prop} {nm : Str} {body : List Stmt} {d : Addr} {o : Obj} {kvs : List (Str × Value)} {m : Str → Option Value} {nw₀ : Ledger} (J : Nat → (Str → Option Value) → Ledger → Prop)
    (hd : o.IsDictOf (PySem.strKind prog w) kvs) (lo : (d == sysModules) = false) (hh : A.handled = none) (F : Fr h₀ env.locals hs m) (N : News h₀ env.locals hs nw₀) (hj : J 0 m nw₀) (hl : ∀ i m nw, J i m nw → (d, o) ∈ nw)
    (turn : ∀ I i k x t m₁ nw h tk oI, (∀ p ∈ nw₀, p.1 < I) → kvs[i]? = some (k, x) → J i m₁ nw → (∀ p ∈ nw, p.1 ≠ I) → Fr h₀ env.locals h (setm nm (.str k t) m₁) → News h₀ env.locals h ((I, oI) :: nw) →
      wpAny (model prog w) A (execs body env) (TurnEnd h₀ env.locals I oI (J (i + 1)) ⟨hs, g9, d9, t9, o9⟩ Q) E ⟨h, g9, d9, tk, o9⟩)
    (done : ∀ m₁ nw h tk, J kvs.length m₁ nw → Fr h₀ env.locals h m₁ → News h₀ env.locals h nw → Q .next ⟨h, g9, d9, tk, o9⟩) :
    wpAny (model prog w) A (pyIter (.ref d)) (fun it s₂ => LoopAtV prog w A h₀ env nm body Q E it s₂) E ⟨hs, g9, d9, t9, o9⟩ := by
  have hm := hl _ _ _ hj
  have hol := (N _ hm).1
  obtain ⟨es, ep, hD⟩ := hd
  have hDA : hs.DictAt (PySem.strKind prog w) d kvs ep := ⟨o, es, hol, hD⟩
  have hne : d ≠ hs.objs.size := Nat.ne_of_lt (Heap.lt_size hol)
  refine wpAny_pyIter_dict lo hDA ?_
  have W := Walks.dictKeys (prog := prog) (w := w) (knd := PySem.strKind prog w) hh hs.objs.size d hne kvs ep
  have lt : ∀ p ∈ nw₀, p.1 < hs.objs.size := fun p hp => Heap.lt_size (N p hp).1
  refine loopAt J W (fun i h st => ?_) ⟨⟨_, Heap.get?_push_size _ rfl, rfl, rfl⟩, hDA.at' fun o e => Heap.get?_push_of_some _ e⟩ ?_ ?_ ?_ (F.push _)
    (fun p hp => ⟨Heap.get?_push_of_some _ (N p hp).1, (N p hp).2⟩) (fun p hp => Nat.ne_of_lt (lt p hp)) hj ?_ (fun i v m₁ nw h tk oI _ hP hJ hne F₁ N₁ => ?_) done
  · obtain ⟨⟨o, ho, _⟩, _⟩ := st
    exact ⟨o, ho⟩
  · exact fun e => absurd F.ns.lt (e ▸ Nat.lt_irrefl _)
  · exact fun hm' => (N _ hm).2.1 (List.mem_singleton.mp hm').symm
  · exact next_is_new F
  · intro b hb
    rw [List.mem_singleton.mp hb]
    exact ⟨_, hl⟩
  · obtain ⟨k, x, hk, his⟩ := hP
    obtain ⟨t, rfl⟩ := Value.isStrOf_shape his
    exact turn _ i k x t m₁ nw h tk oI lt hk hJ hne F₁ N₁
/-- the labels told to which nothing leads -/
noncomputable def idleOf (c : CS) : List (Lab × Nat) := c.told.filter fun y => !c.led.contains y.1
theorem valueAt_get : ∀ {kvs : List (Str × Value)} {i : Nat} {k : Str} {x : Value}, (kvs.map (·.1)).Nodup → kvs[i]? = some (k, x) → valueAt kvs k = some x
  | [], i, k, x, _, h => by simp at h
  | (a, b) :: r, i, k, x, hn, h => by
    rw [List.map_cons, List.nodup_cons] at hn
    cases i with
    | zero =>
      simp at h
      obtain ⟨rfl, rfl⟩ := h
      simp [valueAt]
    | succ i =>
      simp only [List.getElem?_cons_succ] at h
      have ih := valueAt_get hn.2 h
      have hne : a ≠ k := fun e => hn.1 (by rw [e]; exact List.mem_map.mpr ⟨(k, x), List.mem_of_getElem? h, rfl⟩)
      unfold valueAt at ih ⊢
      rw [List.find?_cons, decide_eq_false hne]
      exact ih
theorem idle_cons {led : List Lab} : ∀ {ts : List (Lab × Nat × Tok)} {i : Nat} {y : Lab × Nat × Tok}, (∀ z ∈ ts.take i, led.contains z.1 = true) → ts[i]? = some y → led.contains y.1 = false → ∃ r, ((ts.map fun y => (y.1, y.2.1)).filter fun y => !led.contains y.1) = (y.1, y.2.1) :: r
  | [], i, y, _, h, _ => by simp at h
  | a :: r, i, y, ht, h, hf => by
    cases i with
    | zero =>
      simp at h
      subst h
      refine ⟨(r.map fun y => (y.1, y.2.1)).filter fun y => !led.contains y.1, ?_⟩
      rw [List.map_cons, List.filter_cons]
      simp only [hf]
      rfl
    | succ i =>
      simp only [List.getElem?_cons_succ] at h
      have h0 := ht a (by simp)
      obtain ⟨r', hr⟩ := idle_cons (fun z hz => ht z (by simp [hz])) h hf
      refine ⟨r', ?_⟩
      rw [List.map_cons, List.filter_cons]
      simp only [h0]
      exact hr
theorem idle_nil {led : List Lab} {ts : List (Lab × Nat × Tok)} (h : ∀ z ∈ ts, led.contains z.1 = true) : ((ts.map fun y => (y.1, y.2.1)).filter fun y => !led.contains y.1) = [] := by
  rw [List.filter_eq_nil_iff]
  intro y hy
  obtain ⟨z, hz, rfl⟩ := List.mem_map.mp hy
  simp only [h z hz]
  decide
noncomputable def SameNames (nm : Str) (m₀ m : Str → Option Value) : Prop := ∀ y, y ≠ nm → m y = m₀ y
theorem take_more {P : Lab × Nat × Tok → Prop} {ts : List (Lab × Nat × Tok)} {i : Nat} {y : Lab × Nat × Tok} (h : ∀ z ∈ ts.take i, P z) (hy : ts[i]? = some y) (hp : P y) : ∀ z ∈ ts.take (i + 1), P z := fun z hz => by
  rw [List.take_add_one, hy] at hz
  rcases List.mem_append.mp hz with hz | hz
  · exact h z hz
  · simp at hz; subst hz; exact hp
theorem Ev.dT {w : World} {A : Around} {s : Shared} {k : Nat} {value slice : PySem.Expr} {h₀ : Heap} {L d : Addr} {news : Ledger} {o : Obj} {kvs : List (Str × Value)} {x : Str} {t : Tok} {v : Value} (N : News h₀ L s.heap news) (hp : (d, o) ∈ news) (hd : o.IsDictOf (SK w) kvs) (hl : valueAt kvs x = some v)
    (hs : ∀ d x t, subscripted slice false (.ref d) (.str x t) = operate [.ref d, .str x t] (getItem (.ref d) (.str x t))) : Ev PySem.Challenge.rw_xw0043_01.row.prog w A s k (subscriptTail value slice (.ref d) (.str x t)) v k.succ :=
  .mk fun _ _ h => kdt_tail (s := adv s k) N hp hd (kdt_getItem (s := adv s k) N hp hd (strKind_is _ _ _ _) hl h) (hs _ _ _)
/-- as ConR, of the call's code -/
noncomputable def ConRc (w : World) (f : Addr) (dn un : Nat) (vs : List Value) (news : Ledger) (R : Value → Ledger → Prop) (RE : Int → Ledger → Prop) : Prop :=
  ∀ (p : Program) (loose : List Str) (mean : ExcName → Option Value) (mg mb : Str → Option Value) (dp u : Nat) (gd : Option (List Code)) (cn : Str) (cs : Scope) (a : Addr) (ccd : Value) (cl : List (Str × Addr)) (outer : List Env) (A₀ : Around) (base h₀ : Heap) (L : Addr) (m : Str → Option Value) (h : Heap) (g : Array GenState) (d : Drawn) (tk : Nat) (o : OsState)
    (Q E : Value → Shared → Prop),
    Below A₀ base outer h₀ → (K4 w.params).In h₀ → Top p loose mean mg mb h₀ → cs.kind = .function → dp + dn < 900 → u + un < 9000 → Fr h₀ L h m → News h₀ L h news →
    (∀ r n' h' tk', Fr h₀ L h' m → News h₀ L h' n' → R r n' → Q r ⟨h', g, d, tk', o⟩) →
    (∀ e c oc i t n' h' tk' g', lookIn (Str.ofString "spot") oc = some (some (.int i t)) → Fr h₀ L g' m → FaultR base g' (envX cn cs L a ccd cl :: outer) e c ((c, oc) :: n') h' → g'.UpToSlots h' → RE i n' → E (.ref e) ⟨h', g, d, tk', o⟩) →
    codeAny (model PySem.Challenge.rw_xw0043_01.row.prog w) (ktrTop dp u gd cn cs L a ccd cl outer) (.call (.ref f) ⟨vs, []⟩) (fun r s' => match r with | .ok (.ret v) => Q v s' | .ok _ => False | .error e => E e s') ⟨h, g, d, tk, o⟩
theorem conRc_enter {w : World} {f : Addr} {dn un : Nat} {vs : List Value} {news : Ledger} {R : Value → Ledger → Prop} {RE : Int → Ledger → Prop} {name qual : Str} {params : Arguments} {body : List Stmt} {scope : Scope} {dV kV doc pm cdv ct oc : Value} {an od : Option Addr} {osl : Array (Option Value)} {binds : List (Str × Value)} (ho : (K4 w.params).lookup f = some ⟨oc, od, .func (fnOf name qual params body scope dV kV doc pm an cdv ct), osl⟩) (hcd : codeIn (K4 w.params) cdv qual = true)
    (hbind : ∀ s, BindsTo s (fnOf name qual params body scope dV kV doc pm an cdv ct) ⟨vs, []⟩ binds) (hloc : true = binds.all fun y => decide (scope.names.lookup y.1 = some .local))
    (hfl : true = (!scope.isCoroutine && !scope.isGenerator && (scope.kind == .function) && scope.names.all fun x => x.2 != .cell))
    (body_ : ∀ (p : Program) (loose : List Str) (mean : ExcName → Option Value) (mg mb : Str → Option Value) (dp u : Nat) (gd : Option (List Code)) (outer : List Env) (A : Around) (base g : Heap) (L : Addr) (h : Heap) (g9 : Array GenState) (d9 : Drawn) (tk : Nat) (o9 : OsState) (Q : Flow → Shared → Prop) (E : Value → Shared → Prop),
      Below A base outer g → (K4 w.params).In g → Top p loose mean mg mb g → dp + dn < 900 → u + un < 9000 → (∀ fl n' h' tk' m', Fr g L h' m' → News g L h' n' → R (flv fl) n' → Q fl ⟨h', g9, d9, tk', o9⟩) →
      let e9 := envX qual scope L f cdv []; let a9 := ktrTop dp u gd qual scope L f cdv [] outer; let m9 := fun y => binds.reverse.lookup y
      PassesOwn (model PySem.Challenge.rw_xw0043_01.row.prog w) a9 e9 E → FaultOn w g L a9 g9 d9 o9 RE E → FliesOn base g L e9 outer g9 d9 o9 RE E →
      Fr g L h m9 → News g L h news → wpAny (model PySem.Challenge.rw_xw0043_01.row.prog w) a9 (execs body e9) Q E ⟨h, g9, d9, tk, o9⟩) : ConRc w f (dn + 1) (un + 3) vs news R RE := by
  intro p loose mean mg mb dp u gd cn cs a ccd cl outer A₀ base h₀ L m h g d tk o Q E B X T hk hd hu F N ret raise
  simp only [Bool.true_eq, Bool.and_eq_true, Bool.not_eq_true', beq_iff_eq] at hfl
  obtain ⟨⟨⟨hco, hgen⟩, hkd⟩, hcell⟩ := hfl
  have hc' : ∀ x ∈ scope.names, x.2 ≠ .cell := fun x hx => by
    have := List.all_eq_true.mp hcell x hx
    simpa using this
  refine (code_def (s := ⟨h, g, d, tk, o⟩) B F X N T rfl rfl hk ho hcd (by show dp < recursionLimit; have : recursionLimit = 1000 := rfl; omega) (hbind _) (locs hloc.symm) (fun g₁ L' h₁ FG F' N' B' X' T' => ?_) hco hgen hkd hc')
  refine body_ p loose mean mg mb (dp + 1) (u + 3) _ (envX cn cs L a ccd cl :: outer) _ base g₁ L' h₁ g d _ o _ _ B' X' T' (by omega) (by omega) (fun fl n' h' tk' m' F₂ N₂ k => leaveK_ F₂ N₂ fun F₃ N₃ => ?_) (by with_unfolding_all passes_own) ?_ ?_ F' N'
  · cases fl <;> exact ret _ n' h' tk' F₃ N₃ k
  · intro msg tm n tn h2 tk2 m2 n2 E'' F2 N2 hr
    exact fault_flies (s := ⟨h2, g, d, tk2, o⟩) rfl B' F2 N2 X' rfl rfl hkd (by show dp + 1 ≤ 900; omega) (by show u + 3 ≤ 9000; omega) fun e c oc h' tk' hl R' up => raise e c oc n tn n2 h' tk' g₁ hl FG R' up hr
  · intro e c oc i t n2 h2 tk2 g2 m2 hl F2 R2 up hr
    exact fly_leave_on (s' := ⟨h2, g, d, tk2, o⟩) B' F2 rfl R2 up fun h3 R3 up3 => raise e c oc i t n2 h3 tk2 g₁ hl FG R3 up3 hr
structure Bx (P : Prop) : Prop where
  un : P
set_option maxRecDepth 100000 in
set_option maxHeartbeats 0 in
theorem used (w : World) (x d td ud ol : Addr) (t1 t2 t3 : Tok) (o1 o2 : Obj) (vs : List Value) (n : Nat) (rest : Ledger) (c : CS) (ha : Apart x d td ud ol rest) (hT : ToldD w o1 c.told) (hU : UsedD w o2 c.led) (lo1 : (td == sysModules) = false) (lo2 : (ud == sysModules) = false) :
    ConRc w 108 4 80 [.ref x] (CK w x d td ud ol t1 t2 t3 o1 o2 vs n rest)
      (fun r news' => r = .none ∧ idleOf c = [] ∧ ∀ p ∈ rest, p ∈ news')
      (fun i news' => (∃ l j r, i = (j : Nat) ∧ idleOf c = (l, j) :: r) ∧ ∀ p ∈ rest, p ∈ news') := by
  obtain ⟨⟨ts, h1, hts⟩, htl⟩ := id hT
  obtain ⟨kv2, h2, hl2, hk2⟩ := hU.is
  refine' conRc_enter ?ho ?hcd ?hb ?hl ?hf ?_
  case ho => k_is
  case hcd => k_is
  case hb => exact fun _ => BindsTo.of_eq rfl
  case hl => exact rfl
  case hf => exact rfl
  intro p loose mean mg mb dp u gd outer A base g LL h g9 d9 tk o9' Q E B X T hd hu hq e9 a9 m9 hP hE1 hE2 F1 N1
  replace hE1 := Bx.mk hE1
  obtain ⟨a1, a2, a3, a4, a5, a6, a7, a8, a9', a10, r1, r2, r3, r4, r5⟩ := ha
  have pk : ParkHere := ⟨⟩
  k_steps
  have hnd := dict_nodup h1
  k_dflt (refine' iter_dict (fun i9 m9 nw => SameNames (Str.ofString "label") _ m9 ∧ nw = _ ∧ ∀ z ∈ ts.take i9, c.led.contains z.1 = true) ?hd ?lo ?hh ?F ?N ⟨fun _ _ => rfl, rfl, by simp⟩ ?hl ?turn ?done; (case hh => exact rfl); (case hd => exact h1); (case lo => exact lo1); (case F => k_asm); (case N => k_asm))
  case hl =>
    rintro i m nw ⟨_, rfl, _⟩
    k_mem
  case turn =>
    intro I i9 k9 x9 tk9 m₁ nw h tk oI hlt hk9 hJ hne F6 N6
    refine hideG fun X9 kX => ?_
    obtain ⟨hmm, rfl, hall⟩ := hJ
    replace F6 := frSame hmm F6
    rw [List.getElem?_map] at hk9
    obtain ⟨y, hy, he⟩ : ∃ y, ts[i9]? = some y ∧ (y.1.text, Value.int (y.2.1 : Int) y.2.2) = (k9, x9) := by
      cases hq : ts[i9]? with
      | none => rw [hq] at hk9; cases hk9
      | some y => rw [hq] at hk9; exact ⟨y, rfl, Option.some.inj hk9⟩
    obtain ⟨rfl, rfl⟩ := Prod.mk.inj he
    have hat : valueAt (ts.map fun y => (y.1.text, Value.int (y.2.1 : Int) y.2.2)) y.1.text = some (.int (y.2.1 : Int) y.2.2) := valueAt_get hnd (i := i9) (by rw [List.getElem?_map, hy]; rfl)
    have hyt : y.1.tells = true := htl (y.1, y.2.1) (by rw [hts]; exact List.mem_map.mpr ⟨y, List.mem_of_getElem? hy, rfl⟩)
    have hin := hl2 y.1 (tells_no hyt)
    have nI := hne
    refine kX ?_
    refine setFN F6 N6 ?_
    intro m3 n3 F3 N3
    clear F6 N6 kX
    k_steps
    · rename List.contains _ _ = true => hc
      exact TurnEnd.of F3 N3 (fun _ h => h) nI ⟨frSame', rfl, take_more (P := fun z => c.led.contains z.1 = true) hall hy hc⟩
    · rename List.contains _ _ = false => hc
      obtain ⟨r9, hr9⟩ := idle_cons hall hy hc
      refine Ev.run (Ev.dT (by k_asm) (by lge_bears) (by assumption) (by assumption) (fun _ _ _ => rfl)) ?_
      k_steps
      refine hE1.un _ _ _ _ _ _ _ _ _ (by k_asm) (by k_asm) ?_
      exact ⟨⟨_, y.2.1, r9, rfl, by unfold idleOf; rw [hts]; exact hr9⟩, by k_slotset⟩
  case done =>
    intro m₁ nw h tk hJ F3 N3
    obtain ⟨hmm, rfl, hall⟩ := hJ
    k_steps
    exact hq _ _ _ _ _ (by assumption) (by assumption) ⟨rfl, by unfold idleOf; rw [hts]; exact idle_nil (by simpa using hall), fun p hp => by simp only [CK, List.mem_cons, hp, or_true]⟩

theorem fresh_Mk : True := by
  w_top off
  exact trivial
/-- what `LabelChecker()` gives -/
inductive MkPost (w : World) (news : Ledger) : Value → Ledger → Prop
  | mk (x d td ud ol : Addr) (t1 t2 t3 : Tok) (o1 o2 : Obj) (hT : ToldD w o1 []) (hU : UsedD w o2 []) (lo1 : (td == sysModules) = false) (lo2 : (ud == sysModules) = false) (ha : Apart x d td ud ol news) (hab : ∀ q ∈ [x, d, td, ud, ol], ∀ p ∈ news, @LT.lt Nat _ p.1 q) : MkPost w news (.ref x) (CK w x d td ud ol t1 t2 t3 o1 o2 [] 0 news)
theorem code_enter {w : World} {f : Addr} {vs : List Value} {news : Ledger} {R : Result → Shared → Prop} {p : Program} {loose : List Str} {mean : ExcName → Option Value} {mg mb : Str → Option Value} {dp u : Nat} {gd : Option (List Code)} {cn : Str} {cs : Scope} {a : Addr} {ccd : Value} {cl : List (Str × Addr)} {outer : List Env} {A₀ : Around} {base h₀ : Heap} {L : Addr} {m : Str → Option Value} {h : Heap} {g : Array GenState} {d : Drawn} {tk : Nat} {o : OsState} {name qual : Str} {params : Arguments} {body : List Stmt} {scope : Scope} {dV kV doc pm cdv ct oc : Value} {an od : Option Addr} {osl : Array (Option Value)} {binds : List (Str × Value)}
    (B : Below A₀ base outer h₀) (X : (K4 w.params).In h₀) (T : Top p loose mean mg mb h₀) (hk : ScopeKind.function = cs.kind) (hd : dp < recursionLimit) (F : Fr h₀ L h m) (N : News h₀ L h news) (ho : (K4 w.params).lookup f = some ⟨oc, od, .func (fnOf name qual params body scope dV kV doc pm an cdv ct), osl⟩) (hcd : codeIn (K4 w.params) cdv qual = true)
    (hbind : ∀ s, BindsTo s (fnOf name qual params body scope dV kV doc pm an cdv ct) ⟨vs, []⟩ binds) (hloc : true = binds.all fun y => decide (scope.names.lookup y.1 = some .local))
    (hfl : true = (!scope.isCoroutine && !scope.isGenerator && (scope.kind == .function) && scope.names.all fun x => x.2 != .cell))
    (body_ : ∀ (A : Around) (g₁ : Heap) (L' : Addr) (h : Heap) (tk : Nat) (Q : Flow → Shared → Prop),
      Below A base (envX cn cs L a ccd cl :: outer) g₁ → (K4 w.params).In g₁ → Top p loose mean mg mb g₁ → Fr h₀ L g₁ m → (∀ fl n' h' tk' m', Fr g₁ L' h' m' → News g₁ L' h' n' → (Fr h₀ L h' m → News h₀ L h' n' → R (.ok (.ret (flv fl))) ⟨h', g, d, tk', o⟩) → Q fl ⟨h', g, d, tk', o⟩) →
      let e9 := envX qual scope L' f cdv []; let a9 := ktrTop (dp + 1) (u + 3) gd qual scope L' f cdv [] (envX cn cs L a ccd cl :: outer); let m9 := fun y => binds.reverse.lookup y
      Fr g₁ L' h m9 → News g₁ L' h news → wpAny (model PySem.Challenge.rw_xw0043_01.row.prog w) a9 (execs body e9) Q nvr ⟨h, g, d, tk, o⟩) :
    codeAny (model PySem.Challenge.rw_xw0043_01.row.prog w) (ktrTop dp u gd cn cs L a ccd cl outer) (.call (.ref f) ⟨vs, []⟩) R ⟨h, g, d, tk, o⟩ := by
  simp only [Bool.true_eq, Bool.and_eq_true, Bool.not_eq_true', beq_iff_eq] at hfl
  obtain ⟨⟨⟨hco, hgen⟩, hkd⟩, hcell⟩ := hfl
  have hc' : ∀ x ∈ scope.names, x.2 ≠ .cell := fun x hx => by
    have := List.all_eq_true.mp hcell x hx
    simpa using this
  refine (code_def (s := ⟨h, g, d, tk, o⟩) B F X N T rfl rfl hk.symm ho hcd hd (hbind _) (locs hloc.symm) (fun g₁ L' h₁ FG F' N' B' X' T' => ?_) hco hgen hkd hc')
  refine wpAny_mono (E := nvr) ?_ (fun _ _ x => x) fun _ _ q => q.elim
  refine body_ _ g₁ L' h₁ _ _ B' X' T' FG (fun fl n' h' tk' m' F₂ N₂ k => leaveK_ F₂ N₂ fun F₃ N₃ => ?_) F' N'
  cases fl <;> exact k F₃ N₃
set_option maxRecDepth 100000 in
set_option maxHeartbeats 0 in
theorem mkck {w : World} {news : Ledger} : Con w 111 4 60 [] news (fun K => ∀ r n', MkPost w news r n' → K r n') := by
  intro p loose mean mg mb dp u gd cn cs a ccd cl outer A₀ base h₀ L m h g d tk o Q B X T hk hd hu F N ret
  k_dflt (refine' call_cls ?k1 ?k2 ?k3 ?k4 ?k5 ?k6 ?_; (case k1 => k_asm); (case k2 => k_asm); (case k3 => k_asm); (case k4 => k_is); (case k5 => k_is); (case k6 => k_is); k_whole)
  intro x' d' h' F' N' l1 l2
  have q0 : @Ne Nat x' d' := Nat.ne_of_gt l2
  replace l1 : ∀ p ∈ news, @LT.lt Nat _ p.1 d' := l1
  refine' code_enter B X T hk.symm ?hdd F' N' ?ho ?hcd ?hb ?hl ?hf ?_
  case hdd => exact room0 hd rfl
  case ho => k_is
  case hcd => k_is
  case hb => exact fun _ => BindsTo.of_eq rfl
  case hl => exact rfl
  case hf => exact rfl
  intro A g1 LL h1 tk1 Q' B' X' T' FG hq e9 a9 m9 F1 N1
  k_steps
  rename_i tdA _ oT loT hsT fsT hiT fiT lT _ udA _ oU loU hsU fsU hiU fiU lU _ olA _ _ _ _ lO _ F9 N9
  replace lT := ltAll lT
  replace lU := ltAll lU
  have g2 : @Ne Nat x' tdA := by k_ne
  have g3 : @Ne Nat x' udA := by k_ne
  have g4 : @Ne Nat x' olA := by k_ne
  have g5 : @Ne Nat d' tdA := by k_ne
  have g6 : @Ne Nat d' udA := by k_ne
  have g7 : @Ne Nat d' olA := by k_ne
  have g8 : @Ne Nat tdA udA := by k_ne
  have g9 : @Ne Nat tdA olA := by k_ne
  have g10 : @Ne Nat udA olA := by k_ne
  have n2 : ∀ p ∈ news, @LT.lt Nat _ p.1 x' := fun p hp => Nat.lt_trans (l1 p hp) l2
  have n3 : ∀ p ∈ news, @LT.lt Nat _ p.1 tdA := ltSub lT (by k_slotset)
  have n4 : ∀ p ∈ news, @LT.lt Nat _ p.1 udA := ltSub lU (by k_slotset)
  have n5 : ∀ p ∈ news, @LT.lt Nat _ p.1 olA := ltSub lO (by k_slotset)
  refine hq _ _ _ _ _ F9 (News.perm (news' := (x', instObj 111 d') :: (d', chkD w tdA udA olA _ _ _) :: (tdA, oT) :: (udA, oU) :: (olA, listOf #[] 0) :: news) N9 (by k_slotset)) fun F8 N8 => ?_
  exact (⟨rfl, ret _ _ ⟨x', d', tdA, udA, olA, _, _, _, oT, oU, ⟨⟨[], hsT, rfl⟩, fun _ h => nomatch h⟩, ⟨⟨[], hsU, fun l hl => by simp [valueAt], fun _ h => nomatch h⟩⟩, loT, loU,
    ⟨q0, g2, g3, g4, g5, g6, g7, g8, g9, g10,
      fun p hp => Nat.ne_of_lt (n2 p hp), fun p hp => Nat.ne_of_lt (l1 p hp), fun p hp => Nat.ne_of_lt (n3 p hp), fun p hp => Nat.ne_of_lt (n4 p hp), fun p hp => Nat.ne_of_lt (n5 p hp)⟩, fun q hq => by
    simp only [List.mem_cons, List.not_mem_nil, or_false] at hq
    rcases hq with rfl | rfl | rfl | rfl | rfl <;> assumption⟩ _ _ F8 N8⟩ : Value.none = .none ∧ _)

theorem fresh_Catch : True := by
  w_top off
  exact trivial
section
variable {prog : Program} {w : World} {A₀ A : Around} {s : Shared} {base h₀ : Heap} {outer : List Env} {L : Addr} {m : Str → Option Value} {env : Env} {news : Ledger} {K : Frag} {p : Program} {loose : List Str} {mean : ExcName → Option Value} {mg mb : Str → Option Value}
    {R : Result → Shared → Prop} {name qual : Str} {params : Arguments} {body : List Stmt} {scope : Scope} {dV kV doc pm cdv ct oc : Value} {an od : Option Addr} {osl : Array (Option Value)} {f : Addr} {args : Args} {binds : List (Str × Value)}
/-- how a call that may catch is left: the slots of the frames below may have turned -/
noncomputable def LeaveT (A₀ : Around) (base : Heap) (env : Env) (outer : List Env) (h₀ : Heap) (L : Addr) (m : Str → Option Value) (g : Heap) (R : Result → Shared → Prop) (v : Value) (s' : Shared) : Prop :=
  ∃ g' L' m' news', KtsTurn ((env :: outer).filterMap (·.frame)) g g' ∧ Fr g' L' s'.heap m' ∧ News g' L' s'.heap news' ∧
    ∀ h₀', KtsTurn (outer.filterMap (·.frame)) h₀ h₀' → Fr h₀' L s'.heap m → News h₀' L s'.heap news' → Below A₀ base outer h₀' → R (.ok (.ret v)) s'
theorem kts_enterX (B : Below A₀ base outer h₀) (F : Fr h₀ L s.heap m) (N : News h₀ L s.heap news) (hA : A.frames = some (env :: outer)) (hf : env.frame = some L) (hke : env.scope.kind = .function) :
    ∃ oL es ep, (hideAll s.heap (news.map (·.1))).get? L = some oL ∧ oL.data = .dict es ep ∧ (∀ (sl : Array (Option Value)) h', h'.get? L = some { oL with slots := sl } → Heap.Ns h' L m) ∧ h₀.StaysIn (hideAll s.heap (news.map (·.1))) := by
  have nm : ∀ b o, h₀.get? b = some o → b ∉ news.map (·.1) := fun b o e q => by
    obtain ⟨p, hp, rfl⟩ := List.mem_map.mp q
    rw [(N p hp).2.2] at e; cases e
  obtain ⟨oL, es, ep, hL, hLd, hLk, hLf⟩ := F.ns
  have nL : L ∉ news.map (·.1) := fun q => by
    obtain ⟨p, hp, e⟩ := List.mem_map.mp q
    exact (N p hp).2.1 e
  exact ⟨oL, es, ep, hideAll_get _ hL nL, hLd, fun sl h' e => ⟨_, es, ep, e, hLd, hLk, hLf⟩, fun b o e => hideAll_get _ (F.keep b o e) (nm b o e)⟩
theorem enterS (B : Below A₀ base outer h₀) (F : Fr h₀ L s.heap m) (X₀ : K.In h₀) (N : News h₀ L s.heap news) (T : Top p loose mean mg mb h₀) (D : KtsDicts (outer.filterMap (·.frame)) h₀) (hA : A.frames = some (env :: outer)) (hf : env.frame = some L) (hke : env.scope.kind = .function)
    (ho : K.lookup f = some ⟨oc, od, .func (fnOf name qual params body scope dV kV doc pm an cdv ct), osl⟩) (hcd : codeIn K cdv qual = true) (hroom : A.depth < recursionLimit)
    (hbind : BindsTo s (fnOf name qual params body scope dV kV doc pm an cdv ct) args binds) (hkind : (binds.all fun y => scope.names.lookup y.1 == some .local || scope.names.lookup y.1 == some .cell) = true)
    (hnd : ((cellsFrom 0 scope.names []).map (·.1)).Nodup)
    (h : ∀ g L' h₁ tk cells, Fr h₀ L g m → Fr g L' h₁ (bindL (envOfC qual scope L' f cdv).kindOf binds fun _ => none) → News g L' h₁ (cells ++ news) →
      CellsAre (bindC (envOfC qual scope L' f cdv).kindOf binds fun _ => none) (cellsFrom (L' + 1) scope.names []) cells → Below A base (env :: outer) g → K.In g → Top p loose mean mg mb g → KtsDicts ((env :: outer).filterMap (·.frame)) g → (∀ p ∈ news, p.1 < L') →
      wpAny (model prog w) (A.deeper (envOfC qual scope L' f cdv)) (execs body (envOfC qual scope L' f cdv))
        (fun fl s' => LeaveT A₀ base env outer h₀ L m g R (match fl with | .ret v => v | _ => .none) s')
        (fun e s' => wpAny (model prog w) (A.deeper (envOfC qual scope L' f cdv)) (leaving (envOfC qual scope L' f cdv) e) (fun _ s'' => R (.error e) s'') (fun e' s'' => R (.error e') s'') s')
        { s with heap := h₁, toks := tk })
    (hco : scope.isCoroutine = false) (hgen : scope.isGenerator = false) (hk : scope.kind = .function) : codeAny (model prog w) A (.call (.ref f) args) R s := by
  obtain ⟨FG, BG, st, _⟩ := groundX (R := R) B F N hA hf hke
  obtain ⟨oL, es, ep, hLg, hLd, hNs, _⟩ := kts_enterX B F N hA hf hke
  have X := X₀.keeps F.keep
  have hkind' := kindsX hkind
  refine codeAny_call_function hroom (X _ _ ho) rfl hco hgen rfl (codeRec_of X hcd) (hbind _ _ _ _ ?_)
  refine wpAny_newFunctionEnv_cells hk (hkind' _) fun env' he s' x => ?_
  subst he
  refine ⟨(T.nolimit.keeps F.keep).keeps x.toInCall.keep, codeAny_func ?_⟩
  obtain ⟨h₁, tk, rfl, _⟩ := x.done
  have hk₁ := x.toInCall.keep
  obtain ⟨cells, NC, Y⟩ := Cl.news (h₀ := s.heap) (Nat.le_refl _) fun n c hm => ⟨x.cell n c (lookup_of_mem_nodup (cellsFrom_names scope.names 0 (s.heap.objs.size + 1) [] [] rfl ▸ hnd) hm), x.above n c hm⟩
  refine wpAny_mono (h _ s.heap.objs.size h₁ tk cells FG ⟨x.toInCall.ns, fun b o e => hk₁ b o (of_hideAll _ e), Nat.le_of_eq (hideAll_size _ _)⟩ (fun p hp => ?_) Y BG (X₀.keeps st) (T.keeps st) (fun b hb => ?_) (fun p hp => Heap.lt_size (N p hp).1)) (fun fl s' hl => ?_) fun _ _ y => y
  · rcases List.mem_append.mp hp with hp | hp
    · refine ⟨(NC p hp).1, (NC p hp).2.1, ?_⟩
      cases q : (hideAll s.heap (news.map (·.1))).get? p.1 with
      | none => rfl
      | some o => have := of_hideAll _ q; rw [(NC p hp).2.2] at this; cases this
    · exact ⟨hk₁ _ _ (N p hp).1, Nat.ne_of_lt (Heap.lt_size (N p hp).1), hideAll_none _ (List.mem_map_of_mem hp)⟩
  · rcases fly_mem hf hb with rfl | hb
    · exact ⟨oL, es, ep, hLg, hLd⟩
    · obtain ⟨o, es', n', ho', hd'⟩ := D b hb
      exact ⟨o, es', n', st b o ho', hd'⟩
  · obtain ⟨g', L', m', news', T', F', N', k⟩ := hl
    have nL₀ : h₀.get? L = none := kts_self F
    obtain ⟨sl, hs⟩ := T'.up hLg
    obtain ⟨T₁, S₁⟩ := kts_turn_at (h := s'.heap) (fs := outer.filterMap (·.frame)) (g := h₀)
      (fun b hb => by
        obtain ⟨_, o, ho', _⟩ := B.frames.mem hb
        exact ⟨o, ho'⟩)
      (fun b o e nmem => F'.keep b o (T'.other b o (st b o e) (fun q => by
        rcases fly_mem hf q with z | z
        · rw [z, nL₀] at e
          cases e
        · exact nmem z)))
      (fun b o e hm => by
        obtain ⟨sl', hs'⟩ := T'.up (st b o e)
        exact ⟨sl', F'.keep _ _ hs'⟩)
    have B₃ : Below A₀ base outer (ktsHeap s'.heap (outer.filterMap (·.frame)) h₀) := ⟨B.stack, fun b o e => T₁.other b o (B.stays b o e) (fun hm => by
      rw [(B.frames.mem hm).1] at e
      cases e), B.frames.of_keeps fun b o e _ => by
      obtain ⟨sl', hs'⟩ := T₁.up e
      exact ⟨_, hs', rfl⟩⟩
    refine k _ T₁ ⟨hNs sl _ (F'.keep _ _ hs), S₁, by rw [T₁.size]; exact F.above⟩ (fun p hp => ⟨(N' p hp).1, fun q => ?_, ?_⟩) B₃
    · have := (N' p hp).2.2; rw [q, hs] at this; cases this
    · refine T₁.none_ _ ?_
      cases q : h₀.get? p.1 with
      | none => rfl
      | some o =>
        obtain ⟨sl', hs'⟩ := T'.up (st _ _ q)
        have := (N' p hp).2.2
        rw [hs'] at this
        cases this
end
section
variable {prog : Program} {w : World} {A₀ : Around} {E : Value → Shared → Prop} {s' : Shared} {base g G B h₅ : Heap} {outer : List Env} {L a e d : Addr} {od : Obj} {m : Str → Option Value} {env : Env} {cn : Str} {cs : Scope} {ccd : Value} {cl : List (Str × Addr)}
  {n : Str} {b₀ : Stmt} {suite : List Stmt} {pos np : Pos} {rest : List ExceptHandler} {Q : Flow → Shared → Prop} {news : Ledger} {KF : Frag} {p : Program} {loose : List Str} {mean : ExcName → Option Value} {mg mb : Str → Option Value} {x : Str}
theorem kts_groundX (K : Below A₀ base outer g) (F : Fr g L G m) (hf : env.frame = some L) (hBG : ∀ b o, G.get? b = some o → b ∉ (env :: outer).filterMap (·.frame) → B.get? b = some o) (hBh : B.StaysIn h₅) (hsm : G.UpToSlots h₅) :
    ∃ g', KtsTurn (outer.filterMap (·.frame)) g g' ∧ Fr g' L h₅ m ∧ Below A₀ base outer g' := by
  obtain ⟨T, S⟩ := kts_turn_at (h := h₅) (fs := outer.filterMap (·.frame)) (g := g)
    (fun b hb => by
      obtain ⟨_, o, ho, _⟩ := K.frames.mem hb
      exact ⟨o, ho⟩)
    (fun b o e nm => hBh b o (hBG b o (F.keep b o e) (fun hm => by
      rcases fly_mem hf hm with z | z
      · rw [z, kts_self F] at e
        cases e
      · exact nm z)))
    (fun b o e hm => by
      obtain ⟨_, o', ho', hd⟩ := K.frames.mem hm
      rw [e] at ho'
      cases ho'
      exact hsm b o (F.keep b o e) hd)
  refine ⟨_, T, ⟨hsm.ns F.ns, S, by rw [T.size]; exact F.above⟩, ⟨K.stack, fun b o e => T.other b o (K.stays b o e) (fun hm => by
    rw [(K.frames.mem hm).1] at e
    cases e), K.frames.of_keeps fun b o e _ => ?_⟩⟩
  obtain ⟨sl, hs⟩ := T.up e
  exact ⟨_, hs, rfl⟩
theorem kts_freshX {b : Addr} (F : Fr g L G m) (hf : env.frame = some L) (hBG : ∀ b o, G.get? b = some o → b ∉ (env :: outer).filterMap (·.frame) → B.get? b = some o) (hb : B.get? b = none)
    (hnf : ∀ o, g.get? b = some o → b ∈ outer.filterMap (·.frame) → False) : g.get? b = none := by
  cases q : g.get? b with
  | none => rfl
  | some o =>
    by_cases hm : b ∈ outer.filterMap (·.frame)
    · exact (hnf o q hm).elim
    · have := hBG b o (F.keep b o q) (fun hm' => by
        rcases fly_mem hf hm' with z | z
        · rw [z, kts_self F] at q
          cases q
        · exact hm z)
      rw [hb] at this
      cases this
theorem caught_F (R : FaultR base G (envX cn cs L a ccd cl :: outer) e d ((d, od) :: news) s'.heap) (F : Fr g L G m) (K : Below A₀ base outer g) (hsm : G.UpToSlots s'.heap) (XB : KF.In base) (TB : Top p loose mean mg mb base)
    (ex : nsIn KF mainGlobals x = some (some (.ref 45))) (q : ktsIn KF 45 "BaseException" = true)
    (k : ∀ h' g' tk oe, KtsTurn (outer.filterMap (·.frame)) g g' → Fr g' L h' (fun y => if y = n then some (.ref e) else m y) → oe.cls = .ref 45 → oe.dict = some d → (∃ vs, oe.data = .fields vs) → News g' L h' ((e, oe) :: (d, od) :: news) → Below A₀ base outer g' →
      wpAny (model prog w) ((A₀.deeper (envX cn cs L a ccd cl)).mark (some (.ref e))) (execs (b₀ :: suite) (envX cn cs L a ccd cl))
        (fun f s₄ => wpAny (model prog w) (A₀.deeper (envX cn cs L a ccd cl)) (do bindName (envX cn cs L a ccd cl) n .none; unbindBehindTheSuite (envX cn cs L a ccd cl) n pos) (fun _ s₅ => Q f s₅) E s₄)
        (AsSuiteRaised (model prog w) ((A₀.deeper (envX cn cs L a ccd cl)).mark (some (.ref e))) (envX cn cs L a ccd cl) n pos (notedBy (model prog w) ((A₀.deeper (envX cn cs L a ccd cl)).mark (some (.ref e))) (envX cn cs L a ccd cl) (cameBackBy (model prog w) (A₀.deeper (envX cn cs L a ccd cl)) (envX cn cs L a ccd cl) E)))
        { s' with heap := h', toks := tk })
    (hk : cs.kind = .function := by rfl) (hlo : (envX cn cs L a ccd cl).kindOf n = some .local := by rfl) (hx : (envX cn cs L a ccd cl).kindOf x = some .globalImplicit := by rfl) (hd : (x == ("__debug__" : Str)) = false := by decide) :
    wpAny (model prog w) (A₀.deeper (envX cn cs L a ccd cl)) (noteFrame (.ref e) (envX cn cs L a ccd cl))
      (fun _ s₂ => wpAny (model prog w) (A₀.deeper (envX cn cs L a ccd cl)) (setFlight (.ref e) none) (fun _ s₃ =>
        wpAny (model prog w) (A₀.deeper (envX cn cs L a ccd cl)) (handleBy (.ref e) (envX cn cs L a ccd cl) (.ExceptHandler (some (.Name x np)) (some n) (b₀ :: suite) pos :: rest)) Q E s₃) E s₂) E s' := by
  obtain ⟨B, hB, hBG, hl, f1, f2, f3, f4⟩ := R
  have hL : B.get? L = none := by
    obtain ⟨_, ⟨L', _, hf, hn', _⟩, _⟩ := f3
    obtain rfl : L = L' := Option.some.inj hf
    exact hn'
  refine fly_note_on (Around.frames_deeper K.stack) f3 rfl f4 f1 f2 fun h₄ a1 a2 a3 a4 => ?_
  refine fly_flight a1 a2 a3 fun h₅ b1 b2 b3 b4 => ?_
  have hsm₅ := a4.trans b4
  obtain ⟨g₅, T₅, F₅, K₅⟩ := kts_groundX (env := envX cn cs L a ccd cl) K F rfl hBG b1 (hsm.trans hsm₅)
  have X₅ : KF.In g₅ := XB.keeps K₅.stays
  have P₅ : TopRead p loose mg mb g₅ := topRead_of (TB.keeps K₅.stays)
  obtain ⟨oe5, vs5, T5, oT5, ts5, he5, hc5, r5⟩ := id b3
  obtain ⟨nm, q', N, bs, bm, hdct, sn, sub, ab, col, dd, k0, k1, k2, k3, k5, newId, hC, hbase, hbT⟩ := kts_cls X₅ q
  have hC₅ := F₅.keep _ _ hC
  refine wpAny_handleBy_cons (codeAny_handlers_test (nameX_K F₅ X₅ P₅ ex ?_ hk hx hd)) (by intro q; cases q)
  refine wpAny_excMatches_sub_self hC₅ he5 hc5 hbase (codeAny_handlers_suite_as ?_)
  refine fly_flight b1 b2 b3 fun h₆ c1 c2 c3 c4 => ?_
  obtain ⟨g₆, T₆, F₆, K₆⟩ := kts_groundX (env := envX cn cs L a ccd cl) K F rfl hBG c1 ((hsm.trans hsm₅).trans c4)
  obtain ⟨oe, vs, T6, oT6, ts6, he, hc, hdi, hdat, r6⟩ := c3
  have ne₆ : g₆.get? e = none := T₆.none_ _ (kts_freshX (env := envX cn cs L a ccd cl) F rfl hBG f2 fun o ho m => by
    obtain ⟨_, o', ho', hd⟩ := K.frames.mem m
    rw [ho] at ho'
    cases ho'
    obtain ⟨sl, hs⟩ := ((hsm.trans hsm₅).trans c4) _ _ (F.keep _ _ ho) hd
    rw [he] at hs
    cases hs
    exact hd _ hdat)
  have N₆ := News.more F₆ News.nil he (fun es n q => by rw [hdat] at q; cases q) ne₆
  have Nl : News g₆ L h₆ ((d, od) :: news) := fun q hq => ⟨c1 _ _ (hl q hq).1, (fun z => by have := (hl q hq).1; rw [z, hL] at this; cases this), T₆.none_ _ (kts_none F.keep (hl q hq).2.1)⟩
  refine storeX_L F₆ (news := [(e, oe)] ++ ((d, od) :: news)) (fun q hq => (List.mem_append.mp hq).elim (N₆ q) (Nl q)) (fun h₇ F₇ N₇ => ?_) hk hlo
  exact k h₇ g₆ _ oe T₆ F₇ hc hdi ⟨_, hdat⟩ N₇ K₆
end

theorem fresh_Spot : True := by
  w_top off
  exact trivial
section
variable {prog : Program} {w : World} {A : Around} {E : Value → Shared → Prop} {h : Heap} {g : Array GenState} {dr : Drawn} {t : Nat} {os : OsState} {K : Frag} {x d : Addr} {ox od : Obj} {v : Value}
theorem spot_check {M : Model} {nameV : Value} {Q : Unit → Shared → Prop} (X : K.In h) (q : ktsIn K 45 "BaseException" = true) (hx : h.get? x = some ox) (hc : ox.cls = .ref 45) (hq : Q () ⟨h, g, dr, t, os⟩) :
    wpAny M A (checkBuiltinCall "BaseException.__getattribute__" ⟨[.ref x, nameV], []⟩) Q E ⟨h, g, dr, t, os⟩ := by
  obtain ⟨nm, q', N, bs, bm, hdct, sn, sub, ab, col, dd, k0, k1, k2, k3, k5, newId, hC, hbase, _⟩ := kts_cls X q
  have hk : builtinKind "BaseException.__getattribute__" = some .slot := by decide +kernel
  have hsplit : splitId "BaseException.__getattribute__" = some ("BaseException", "__getattribute__") := by decide +kernel
  have hcB : (Value.ref 45 :: bm).contains (.type "BaseException") = true := by rw [List.contains_cons, hbase, Bool.or_true]
  have ha := F.args_bexc_ga (.ref x) nameV
  simp only [checkBuiltinCall, hk, hsplit]
  refine wpAny_bind ?_
  · unfold isInstance
    repeat (first | (with_reducible refine wpAny_loadPart_at hx ?_; rw [hc]) | (with_reducible refine wpAny_isSubtype_exc hC ?_; rw [hcB]) | wp_step)
    exact hq
theorem spot_entry {tk : Tok} {Q : Fin → Shared → Prop} (X : K.In h) (I : InstAt h x ox 45 (some od)) (hf : findObj K 45 (some od) (Str.ofString "spot") = some (.value v)) (hq : Q (.done (.ret v)) ⟨h, g, dr, t, os⟩) :
    wpAny (model prog w) A (Builtin.«object.__getattribute__» ⟨[.ref x, .str (Str.ofString "spot") tk], []⟩) Q E ⟨h, g, dr, t, os⟩ := by
  have L0 := I.type (M := model prog w)
  have L1 := looks_find (M := model prog w) X I hf
  unfold Builtin.«object.__getattribute__»
  refine wpAny_bind (wpAny_pure ?_)
  refine wpAny_bind (wpAny_pure ?_)
  exact wpAny_bind (L0.at (wpAny_bind (L1.at (wpAny_pure hq))))
theorem spot_attr {expr : Bool} {Q : Value → Shared → Prop} (X : K.In h) (q : ktsIn K 45 "BaseException" = true) (I : InstAt h x ox 45 (some od)) (hga : findIn K (.ref 45) "__getattribute__" = some (some (.builtin "BaseException.__getattribute__"))) (hgh : findIn K (.ref 45) "__getattr__" = some none)
    (hf : findObj K 45 (some od) (Str.ofString "spot") = some (.value v)) (hh : handedIn v = true) (hq : Q v ⟨h, g, dr, t + 1, os⟩) : wpAny (model prog w) A (getAttr (.ref x) (Str.ofString "spot") expr) Q E ⟨h, g, dr, t, os⟩ := by
  have L0 := I.type (M := model prog w)
  have L1 := looks_findIn (M := model prog w) X hga
  have L2 := looks_findIn (M := model prog w) X hgh
  have f3 := F.excAttr_ValueError.ga.bind (.ref x)
  have hx0 : (expr && onTheHeap (Value.builtin "BaseException.__getattribute__")) = false := by cases expr <;> rfl
  have hx2 : (Value.builtin "BaseException.__getattribute__" == Value.builtin "object.__getattribute__") = false := by decide +kernel
  have hx1 : (onTheHeap (Value.ref 45) && Value.builtin "BaseException.__getattribute__" == Value.builtin "object.__getattribute__") = false := by rw [hx2]; rfl
  unfold getAttr getAttrBy
  refine wpAny_bind (wpAny_mkText (wpAny_holding (wpAny_bind (L0.at (wpAny_bind (L1.at ?_))))))
  dsimp only
  rw [hx1]
  show wpAny _ _ (getAttrByItsOwn _ _ _ _ _ _) _ _ _
  unfold getAttrByItsOwn hookBefore
  refine wpAny_bind ?_
  show wpAny _ _ (typeLookup _ _) _ _ _
  refine L2.at ?_
  refine wpAny_bind (wpAny_attempt (wpAny_holding ?_))
  unfold callGetattribute
  rw [hx0]
  show wpAny _ _ (boundAndCalled _ _ _) _ _ _
  unfold boundAndCalled
  rw [f3]
  refine wpAny_bind (wpAny_pure ?_)
  refine wpAny_call (codeAny_call_builtin F.excAttr_ValueError.ga.plain F.entry_bexc_ga (spot_check X q I.at_ I.cls (spot_entry X I hf ?_)))
  show wpAny _ _ (handedOut v) _ _ _
  rw [handedOut_of hh]
  exact wpAny_pure hq
end
noncomputable def hasDictIn (K : Frag) (C : Addr) : Bool := match clsIn K C with
  | some cd => cd.hasDict
  | none => false
theorem findObj_of {K : Frag} {C : Addr} {od : Obj} {name : Str} {v : Value} (hc : hasDictIn K C = true) (hf : findIn K (.ref C) name = some none) (hl : lookIn name od = some (some v)) : findObj K C (some od) name = some (.value v) := by
  unfold hasDictIn at hc
  cases h : clsIn K C with
  | none => rw [h] at hc; cases hc
  | some cd =>
    rw [h] at hc
    dsimp only at hc
    unfold findObj
    rw [h, Option.bind_some, hf]
    simp only [Option.bind_some, PySem.W.ownOf, hc, if_true, hl]
/-- as Con, of a call that may catch: the slots of the frames below may have turned -/
noncomputable def ConT (w : World) (f : Addr) (dn un : Nat) (vs : List Value) (news : Ledger) (R : Value → Ledger → Prop) : Prop :=
  ∀ (p : Program) (loose : List Str) (mean : ExcName → Option Value) (mg mb : Str → Option Value) (dp u : Nat) (gd : Option (List Code)) (cn : Str) (cs : Scope) (a : Addr) (ccd : Value) (cl : List (Str × Addr)) (outer : List Env) (A₀ : Around) (base h₀ : Heap) (L : Addr) (m : Str → Option Value) (h : Heap) (g : Array GenState) (d : Drawn) (tk : Nat) (o : OsState)
    (Q E : Value → Shared → Prop),
    Below A₀ base outer h₀ → Fr h₀ L h m → (K4 w.params).In h₀ → News h₀ L h news → Top p loose mean mg mb h₀ → (K4 w.params).In base → Top p loose mean mg mb base → KtsDicts (outer.filterMap (·.frame)) h₀ → cs.kind = .function → dp + dn < 900 → u + un < 9000 →
    (∀ r news' h' tk' h₀', KtsTurn (outer.filterMap (·.frame)) h₀ h₀' → Fr h₀' L h' m → News h₀' L h' news' → Below A₀ base outer h₀' → R r news' → Q r ⟨h', g, d, tk', o⟩) →
    wpAny (model PySem.Challenge.rw_xw0043_01.row.prog w) (ktrTop dp u gd cn cs L a ccd cl outer) (call (.ref f) vs) Q E ⟨h, g, d, tk, o⟩

theorem fresh_Heard : True := by
  w_top off
  exact trivial
theorem cells_nil {cm : Str → Option Value} {cells : Ledger} (h : CellsAre cm [] cells) : cells = [] := by cases h; rfl
noncomputable def KeptAt (M : Model) (q : Addr) (h : Heap) : Prop := ∃ k, (k = Keeper.frame ∨ k = Keeper.machine ∨ k = Keeper.boundFrame) ∧ Looks M h (keeperOf (.ref q)) k
theorem callWith_q {M : Model} {A : Around} {E : Value → Shared → Prop} {s : Shared} {env : Env} {pos : Pos} {first : List Value} {Q : Value → Shared → Prop} {q : Addr} (X : KeptAt M q s.heap) (h : wpAny M A (call (.ref q) (first ++ [])) Q E s) : wpAny M A (callWith pos (.ref q) first (backTo pos (starEach [] env)) []) Q E s :=
  callWith_of rfl (fun _ X => X) (evalArgs_nil3 ⟨X, h⟩)
set_option maxRecDepth 100000 in
set_option maxHeartbeats 0 in
theorem heard (w : World) (q : Addr) (news : Ledger) (dn un : Nat) (R : Value → Ledger → Prop) (RE : Int → Ledger → Prop) (C : ConR w q dn un [] news R RE)
    (hq : ∀ (h₀ h : Heap) (L : Addr), News h₀ L h news → (K4 w.params).In h → KeptAt (model PySem.Challenge.rw_xw0043_01.row.prog w) q h) :
    ConT w 162 (dn + 6) (un + 60) [.ref q] news (fun r news' => (r = .none ∧ ∃ r' n', R r' n' ∧ ∀ p ∈ n', p ∈ news') ∨ ∃ i t n', r = .int i t ∧ RE i n' ∧ ∀ p ∈ n', p ∈ news') := by
  intro p loose mean mg mb dp u gd cn cs a ccd cl outer A₀ base h₀ L m h gs dr tk os Q E B F X N T XB TB D hk hdp hu hret
  refine wpAny_call ?_
  k_dflt (refine' enterS (s := ⟨h, gs, dr, tk, os⟩) ?k1 ?k2 ?k3 ?k4 ?k5 ?k5b ?kA ?kF ?kK ?k6 ?k7 ?k8 ?k9 ?kB ?kD ?_ ?c2 ?c3 ?c4; (case kA => exact rfl); (case kF => exact rfl); (case kK => assumption); (case k1 => k_asm); (case k2 => k_asm); (case k3 => k_asm); (case k4 => k_asm); (case k5 => k_asm); (case k5b => assumption); (case k6 => k_is); (case k7 => k_is); (case k8 => ktr_room); (case k9 => exact BindsTo.of_eq rfl); (case kB => exact rfl); (case kD => decide +kernel); (case c2 => exact rfl); (case c3 => exact rfl); (case c4 => exact rfl); k_whole)
  intro gG LL hA tkA cells FG F1 N1 Y BG XG TG DG lL
  obtain rfl := cells_nil (show CellsAre _ [] _ from Y)
  clear Y
  show wpAny (model PySem.Challenge.rw_xw0043_01.row.prog w) (ktrTop (dp + 1) (u + 3) _ _ _ LL _ _ [] _) (execs _ (envX _ _ LL _ _ [])) _ _ ⟨hA, gs, dr, tkA, os⟩
  k_steps
  refine wpAny_Try_except ?_
  k_steps
  refine callWith_q (hq _ _ _ N1 (XG.keeps F1.keep)) ?_
  k_dflt (refine' C _ _ _ _ _ _ _ _ _ _ _ _ _ _ _ _ _ _ _ _ _ _ _ _ _ _ BG XG TG rfl ?kd ?ku F1 N1 ?ret ?raise; (case kd => ktr_room); (case ku => ktr_units))
  case ret =>
    intro r' news' h' tk' F2 N2 hR
    k_steps
    dsimp only
    exact ⟨gG, LL, _, news', KtsTurn.refl, F2, N2, fun h₀' T9 F9 N9 B9 => hret .none news' _ _ h₀' T9 F9 N9 B9 (.inl ⟨rfl, r', news', hR, fun _ h => h⟩)⟩
  case raise =>
    intro e' d' od' i' t' news' h' tk' gE hl F2 R2 up2 hRE
    k_dflt (refine' caught_F R2 F2 BG up2 XB TB ?ex ?q ?_ ?hk ?hlo ?hx ?hd; (case ex => k_is); (case q => exact rfl); (case hk => exact rfl); (case hlo => exact rfl); (case hx => exact rfl); (case hd => decide); k_whole)
    intro h9 g9 tk9 oe T9 F9 hc hdi hdat N9 B9
    have X9 : (K4 w.params).In g9 := XB.keeps B9.stays
    have P9 : Top p loose mean mg mb g9 := TB.keeps B9.stays
    clear FG BG XG TG F1 F2 N1 DG
    try k_fold
    k_steps
    refine spot_attr (X9.keeps F9.keep) rfl ⟨(N9 (e', oe) List.mem_cons_self).1, hc, ?h1, ?h2⟩ ?hga ?hgh (findObj_of ?h4 ?h5 hl) rfl ?_
    case h1 => obtain ⟨vs9, hv9⟩ := hdat; unfold notCls; rw [hv9]
    case h2 => rw [hdi]; exact (N9 (d', od') (List.mem_cons_of_mem _ List.mem_cons_self)).1
    case hga => k_is
    case hgh => k_is
    case h4 => exact rfl
    case h5 => k_is
    dsimp only
    k_steps
    refine name_goes_keeps F9 N9 ?_
    intro h7 tk7 F7 N7
    dsimp only
    exact ⟨g9, LL, _, _, T9, F7, N7, fun h₀' Tx Fx Nx Bx => hret _ _ _ _ h₀' Tx Fx Nx Bx (.inr ⟨i', t', news', rfl, hRE, fun _ h => List.mem_cons_of_mem _ (List.mem_cons_of_mem _ h)⟩)⟩

theorem fresh_Lam : True := by
  w_top off
  exact trivial
theorem codeAmong_app {pos : Pos} : ∀ {a b : List Value}, TriplesOk a → codeAmong pos (a ++ b) = (codeAmong pos a).or (codeAmong pos b)
  | [], b, _ => rfl
  | .int l t1 :: .int c t2 :: x :: r, b, h => by
    have ih := codeAmong_app (pos := pos) (a := r) (b := b) h
    simp only [List.cons_append, codeAmong]
    cases (l == pos.line && c == pos.col)
    · simpa using ih
    · rfl
theorem triples_app : ∀ {a b : List Value}, TriplesOk a → TriplesOk b → TriplesOk (a ++ b)
  | [], _, _, h => h
  | .int l t1 :: .int c t2 :: x :: r, b, h, h' => triples_app (a := r) (b := b) h h'
/-- the table of a def's codes: every code in it is among `cds`, and bears the name `qual` -/
structure TabOK (qual : Str) (ps : Array Value) (cds : Ledger) : Prop where
  tri : TriplesOk ps.toList
  at_ : ∀ pos, codeAmong pos ps.toList = none ∨ ∃ c' oc vs t, codeAmong pos ps.toList = some (.ref c') ∧ (c', oc) ∈ cds ∧ oc.data = .fields vs ∧ vs[1]? = some (.str qual t)
theorem TabOK.nil {qual : Str} {cds : Ledger} : TabOK qual #[] cds := ⟨trivial, fun _ => .inl rfl⟩
theorem TabOK.more {qual : Str} {ps : Array Value} {cds : Ledger} {pos : Pos} {c' : Addr} {oc : Obj} {vs : Array Value} {t : Tok} (T : TabOK qual ps cds) (hd : oc.data = .fields vs) (hv : vs[1]? = some (.str qual t)) :
    TabOK qual (ps ++ #[rawInt pos.line, rawInt pos.col, .ref c']) ([(c', oc)] ++ cds) := by
  have e : (ps ++ #[rawInt pos.line, rawInt pos.col, Value.ref c']).toList = ps.toList ++ [rawInt pos.line, rawInt pos.col, Value.ref c'] := by simp
  refine ⟨by rw [e]; exact triples_app T.tri trivial, fun q => ?_⟩
  rw [e, codeAmong_app T.tri]
  rcases T.at_ q with h | ⟨c2, oc2, vs2, t2, h, h1, h2, h3⟩
  · rw [h, Option.none_or]
    simp only [rawInt, codeAmong]
    by_cases hq : ((pos.line : Int) == (q.line : Int) && (pos.col : Int) == (q.col : Int)) = true
    · rw [if_pos hq]
      exact .inr ⟨c', oc, vs, t, rfl, List.mem_cons_self, hd, hv⟩
    · rw [if_neg hq]
      exact .inl rfl
  · rw [h, Option.some_or]
    exact .inr ⟨c2, oc2, vs2, t2, rfl, List.mem_cons_of_mem _ h1, h2, h3⟩
theorem lam_make {M : Model} {A : Around} {E : Value → Shared → Prop} {s : Shared} {h₀ : Heap} {L a c P : Addr} {m mg mb : Str → Option Value} {cn : Str} {cs : Scope} {ccd : Value} {cl : List (Str × Addr)} {p : Program} {loose : List Str} {mean : ExcName → Option Value}
    {name qual : Str} {params : Arguments} {body : Expr} {scope : Scope} {ps : Array Value} {pos : Pos} {firstLine : Nat} {clos : List (Str × Addr)} {rest cds : Ledger} {Q : Value → Shared → Prop}
    (F : Fr h₀ L s.heap m) (N : News h₀ L s.heap ((P, tabObj ps) :: rest)) (hne : ∀ p ∈ rest, p.1 ≠ P) (T : Top p loose mean mg mb h₀) (C : CodeHd h₀ c P) (hcd : ccd = .ref c) (TT : TabOK qual ps cds) (hc : ∀ p ∈ cds, p ∈ rest)
    (hcl : closureFor scope (envX cn cs L a ccd cl) = pure clos)
    (h : ∀ f c' ctv h' tk ps' more oc vs t, Fr h₀ L h' m → News h₀ L h' ((f, kla_obj name qual params body scope clos ((mg "__name__").getD .none) c' ctv) :: (P, tabObj ps') :: (more ++ rest)) → TabOK qual ps' (more ++ cds) → (c', oc) ∈ more ++ cds → oc.data = .fields vs → vs[1]? = some (.str qual t) →
      (∀ q ∈ more, ∀ p ∈ (P, tabObj ps) :: rest, p.1 < q.1) → (∀ p ∈ (P, tabObj ps) :: (more ++ rest), p.1 < f) → Q (.ref f) { s with heap := h', toks := tk }) :
    wpAny M A (makeFunction name qual params (.expr body) scope (envX cn cs L a ccd cl) [] [] [] pos firstLine) Q E s := by
  rcases TT.at_ pos with hn | ⟨c', oc, vs, t, he, hmem, hd, hv⟩
  · refine kla_nest F N T C hcd (UpdF.head hne) TT.tri hn hcl fun f c' oc vs t ctv h' tk F' N' hd hv l1 l2 => ?_
    refine h f c' ctv h' tk _ [(c', oc)] oc vs t F' (N'.perm fun q hq => ?_) (TT.more (pos := pos) hd hv) List.mem_cons_self hd hv (fun q hq p hp => ?_) (fun p hp => ?_)
    · simp only [List.mem_cons, List.mem_append, List.not_mem_nil, or_false] at hq ⊢
      rcases hq with rfl | rfl | rfl | hq
      · exact .inl rfl
      · exact .inr (.inr (.inl rfl))
      · exact .inr (.inl rfl)
      · exact .inr (.inr (.inr hq))
    · rw [List.mem_singleton.mp hq]; exact l1 p hp
    · rcases List.mem_cons.mp hp with rfl | hp
      · exact Nat.lt_trans (l1 _ List.mem_cons_self) l2
      · rcases List.mem_cons.mp hp with rfl | hp
        · exact l2
        · exact Nat.lt_trans (l1 p (List.mem_cons_of_mem _ hp)) l2
  · refine kla_hit F N T C hcd List.mem_cons_self TT.tri he hcl fun f ctv h' tk F' N' l1 => ?_
    exact h f c' ctv h' tk ps [] oc vs t F' N' TT hmem hd hv (fun q hq => nomatch hq) l1
noncomputable def nonFin : Step → Bool
  | .fin => false
  | _ => true
mutual
theorem ht_le : ∀ (s : Stm), ht s + 1 ≤ (flat s).countP nonFin + 1 ∧ 1 ≤ (flat s).countP nonFin
  | .lead b i l => by simp [flat, ht, nonFin]
  | .made k i l ss => by
    have h := hts_le ss
    simp only [flat, ht, List.countP_cons, List.countP_append, List.countP_nil]
    simp [nonFin]
    omega
theorem hts_le : ∀ (ss : List Stm), ht.hts ss ≤ (flats ss).countP nonFin ∧ ss.length ≤ (flats ss).countP nonFin
  | [] => by simp [flats, ht.hts]
  | s :: r => by
    have h1 := ht_le s
    have h2 := hts_le r
    simp only [flats, ht.hts, List.countP_append, List.length_cons]
    omega
end
theorem stmts_size (steps : List Step) (hf : Fine 0 steps) : ht.hts (stmtsOf steps) ≤ steps.length ∧ (stmtsOf steps).length ≤ steps.length := by
  obtain ⟨w, e⟩ := go_wf steps 0 [] [[]] trivial (by simp [flatSt, flats]) hf
  obtain ⟨a, n, hn⟩ := close_wf _ _ w
  have e' : flats (stmtsOf steps) = steps ++ List.replicate n .fin := by
    show flats (stClose _ _) = _
    rw [hn, e]
    simp [flatSt, flats]
  have h := hts_le (stmtsOf steps)
  have h2 : (flats (stmtsOf steps)).countP nonFin ≤ steps.length := by
    rw [e', List.countP_append, List.countP_replicate]
    simp only [nonFin]
    have := List.countP_le_length (p := nonFin) (l := steps)
    simpa using this
  omega
theorem StmsIn.snoc {nw : Ledger} : ∀ {ws : List Value} {ss : List Stm}, StmsIn nw ws ss → ss ≠ [] → ∃ wi v si s, ws = wi ++ [v] ∧ ss = si ++ [s] ∧ StmsIn nw wi si ∧ StmIn nw v s
  | _, _, .nil, h => absurd rfl h
  | _, _, .cons (v := v) (s := s) a .nil, _ => ⟨[], v, [], s, rfl, rfl, .nil, a⟩
  | _, _, .cons (v := v) (s := s) a (.cons b t), _ => by
    obtain ⟨wi, v', si, s', h1, h2, h3, h4⟩ := StmsIn.snoc (.cons b t) (by simp)
    exact ⟨v :: wi, v', s :: si, s', by rw [h1]; rfl, by rw [h2]; rfl, .cons a h3, h4⟩
theorem StmsIn.parts {nw : Ledger} {wi : List Value} {v : Value} {si : List Stm} {s : Stm} (h : StmsIn nw (wi ++ [v]) (si ++ [s])) : StmsIn nw wi si ∧ StmIn nw v s := by
  obtain ⟨wi', v', si', s', h1, h2, h3, h4⟩ := h.snoc (by simp)
  obtain ⟨rfl, e1⟩ := List.append_inj' h1 rfl
  obtain ⟨rfl, e2⟩ := List.append_inj' h2 rfl
  cases e1; cases e2
  exact ⟨h3, h4⟩
theorem hts_app : ∀ (a b : List Stm), ht.hts (a ++ b) = max (ht.hts a) (ht.hts b)
  | [], b => (Nat.max_eq_right (Nat.zero_le _)).symm
  | s :: r, b => by
    show max (ht s) (ht.hts (r ++ b)) = max (max (ht s) (ht.hts r)) (ht.hts b)
    rw [hts_app r b, Nat.max_assoc]
noncomputable def ToIn' (nw : Ledger) (v : Value) (x : Lab × Nat × Value × Tok) : Prop := ∃ a n, v = .ref a ∧ (a, tupOf #[x.2.2.1, .int (x.2.1 : Int) x.2.2.2] n) ∈ nw ∧ LabV x.1 x.2.2.1 ∧ x.1.tells = true
theorem ToIn.toks {nw : Ledger} : ∀ {vs : List Value} {xs : List (Lab × Nat × Value)}, All2 (ToIn nw) vs xs → ∃ ys : List (Lab × Nat × Value × Tok), All2 (ToIn' nw) vs ys ∧ xs = ys.map fun y => (y.1, y.2.1, y.2.2.1)
  | _, _, .nil => ⟨[], .nil, rfl⟩
  | _, _, .cons h t => by
    obtain ⟨ys, h1, rfl⟩ := ToIn.toks t
    obtain ⟨a, n, tk, e, hm, hl, ht⟩ := h
    exact ⟨(_, _, _, tk) :: ys, .cons ⟨a, n, e, hm, hl, ht⟩ h1, rfl⟩
theorem LeIn.has {l : Lab} {v : Value} (hl : LabV l v) : ∀ {vs : List Value} {xs : List Lab}, All2 LeIn vs xs → (vs.any fun y => simEq y v) = xs.contains l
  | _, _, .nil => rfl
  | _, _, .cons (x := x) h t => by
    have ih := LeIn.has hl t
    simp only [List.any_cons, List.contains_cons, ih, simEq_lab h.1 hl]
    congr 1
    cases l <;> cases x <;> rfl
theorem LeIn.simple : ∀ {vs : List Value} {xs : List Lab}, All2 LeIn vs xs → ∀ y ∈ vs, Simple y
  | _, _, .nil, y, h => nomatch h
  | _, _, .cons h t, y, hy => by
    rcases List.mem_cons.mp hy with rfl | hy
    · exact h.1.simple
    · exact LeIn.simple t y hy
theorem ToIn'.monoT {nw nw' : Ledger} (hs : ∀ a vs n, (a, tupOf vs n) ∈ nw → (a, tupOf vs n) ∈ nw') (v : Value) (x : Lab × Nat × Value × Tok) : ToIn' nw v x → ToIn' nw' v x := fun ⟨a, n, e, h, r⟩ => ⟨a, n, e, hs _ _ _ h, r⟩

theorem fresh_StepD : True := by
  w_top off
  exact trivial
/-- an address apart from the table and from the checker's own -/
noncomputable def Off (x d td ud ol y : Addr) : Prop := @LT.lt Nat _ 164 y ∧ y ≠ x ∧ y ≠ d ∧ y ≠ td ∧ y ≠ ud ∧ y ≠ ol
/-- an address behind the three cells and the table -/
noncomputable def Hi (L y : Addr) : Prop := @LT.lt Nat _ 164 y ∧ @LT.lt Nat _ (L + 1 + 1 + 1) y
/-- an address apart from the three cells, behind the table -/
noncomputable def Lo (L y : Addr) : Prop := @LT.lt Nat _ 164 y ∧ y ≠ L + 1 ∧ y ≠ L + 1 + 1 ∧ y ≠ L + 1 + 1 + 1
theorem Hi.lo {L y : Addr} (h : Hi L y) : Lo L y := ⟨h.1, Nat.ne_of_gt (Nat.lt_of_succ_lt (Nat.lt_of_succ_lt h.2)), Nat.ne_of_gt (Nat.lt_of_succ_lt h.2), Nat.ne_of_gt h.2⟩
theorem Lo.low {L y : Addr} (h1 : @LT.lt Nat _ 164 y) (h2 : @LT.lt Nat _ y L) : Lo L y := ⟨h1, Nat.ne_of_lt (Nat.lt_succ_of_lt h2), Nat.ne_of_lt (Nat.lt_succ_of_lt (Nat.lt_succ_of_lt h2)), Nat.ne_of_lt (Nat.lt_succ_of_lt (Nat.lt_succ_of_lt (Nat.lt_succ_of_lt h2)))⟩
/-- the ledger of the law of the steps: three cells, the table, the rest -/
abbrev TL (L : Addr) (c1 c2 c3 : Obj) (ps : Array Value) (R : Ledger) : Ledger := (L + 1 + 1 + 1, c3) :: (L + 1 + 1, c2) :: (L + 1, c1) :: (164, tabObj ps) :: R
theorem Hi.of {L y : Addr} {c1 c2 c3 : Obj} {ps : Array Value} {R : Ledger} (h : ∀ p ∈ TL L c1 c2 c3 ps R, @LT.lt Nat _ p.1 y) : Hi L y := ⟨h (164, tabObj ps) (by k_slotget), h (L + 1 + 1 + 1, c3) (by k_slotget)⟩
theorem rd_lo {L : Addr} {c1 c2 c3 : Obj} {ps : Array Value} {tl news : Ledger} (h : ∀ q ∈ tl, ∀ p ∈ TL L c1 c2 c3 ps news, @LT.lt Nat _ p.1 q.1) (l : ∀ p ∈ (164, tabObj ps) :: news, @LT.lt Nat _ p.1 L) (l4 : ∀ p ∈ news, @LT.lt Nat _ 164 p.1) : ∀ p ∈ tl ++ news, Lo L p.1 := fun p hp =>
  (List.mem_append.mp hp).elim (fun hp => (Hi.of (h p hp)).lo) fun hp => Lo.low (l4 p hp) (l p (List.mem_cons_of_mem _ hp))
theorem rd_sub {L : Addr} {c1 c2 c3 : Obj} {ps : Array Value} {tl news : Ledger} : ∀ p ∈ TL L c1 c2 c3 ps (tl ++ news), p ∈ tl ++ TL L c1 c2 c3 ps news := by k_slotset
theorem lo_ne {L : Addr} {R : Ledger} (h : ∀ p ∈ R, Lo L p.1) : (∀ p ∈ R, p.1 ≠ L + 1) ∧ (∀ p ∈ R, p.1 ≠ L + 1 + 1) ∧ ∀ p ∈ R, p.1 ≠ L + 1 + 1 + 1 := ⟨fun p hp => (h p hp).2.1, fun p hp => (h p hp).2.2.1, fun p hp => (h p hp).2.2.2⟩
theorem lo_tab {L : Addr} {R : Ledger} {ps : Array Value} (h : ∀ p ∈ R, Lo L p.1) (l : @LT.lt Nat _ 164 L) : (∀ p ∈ (164, tabObj ps) :: R, p.1 ≠ L + 1) ∧ (∀ p ∈ (164, tabObj ps) :: R, p.1 ≠ L + 1 + 1) ∧ ∀ p ∈ (164, tabObj ps) :: R, p.1 ≠ L + 1 + 1 + 1 :=
  ⟨all_cons (Nat.ne_of_lt (Nat.lt_succ_of_lt l)) (lo_ne h).1, all_cons (Nat.ne_of_lt (Nat.lt_succ_of_lt (Nat.lt_succ_of_lt l))) (lo_ne h).2.1, all_cons (Nat.ne_of_lt (Nat.lt_succ_of_lt (Nat.lt_succ_of_lt (Nat.lt_succ_of_lt l)))) (lo_ne h).2.2⟩
theorem three_ne (L : Nat) : @Ne Nat (L + 1) (L + 1 + 1) ∧ @Ne Nat (L + 1) (L + 1 + 1 + 1) ∧ @Ne Nat (L + 1 + 1) (L + 1 + 1 + 1) := ⟨Nat.ne_of_lt (Nat.lt_succ_self _), Nat.ne_of_lt (Nat.lt_succ_of_lt (Nat.lt_succ_self _)), Nat.ne_of_lt (Nat.lt_succ_self _)⟩
theorem notTup {o : Obj} {v : Option Value} {vs : Array Value} {n : Nat} (h : o.data = .cell v) : tupOf vs n ≠ o := fun e => by rw [← e] at h; cases h
theorem notTupC {o : Obj} (h : o.cls ≠ .type "tuple") {vs : Array Value} {n : Nat} : tupOf vs n ≠ o := fun e => h (by rw [← e])
theorem dict_cls {w : World} {o : Obj} {kv : List (Str × Value)} (h : o.IsDictOf (SK w) kv) : o.cls ≠ .type "tuple" := by
  obtain ⟨_, _, hx, _⟩ := h
  rw [hx.1]
  intro e
  injection e with e
  exact absurd e (by decide)
theorem skipT {a : Addr} {vs : Array Value} {n : Nat} {b : Addr} {o : Obj} {r : Ledger} (hn : tupOf vs n ≠ o) (h : (a, tupOf vs n) ∈ (b, o) :: r) : (a, tupOf vs n) ∈ r := by
  rcases List.mem_cons.mp h with e | h
  · exact absurd (Prod.mk.inj e).2 hn
  · exact h
theorem tl_tup {L a : Addr} {c1 c2 c3 : Obj} {ps : Array Value} {R : Ledger} {v1 v2 v3 : Option Value} (d1 : c1.data = .cell v1) (d2 : c2.data = .cell v2) (d3 : c3.data = .cell v3) {vs : Array Value} {n : Nat} (h : (a, tupOf vs n) ∈ TL L c1 c2 c3 ps R) : (a, tupOf vs n) ∈ R :=
  skipT (notTupC (by intro e9; first | cases e9; done | exact absurd (Value.type.inj e9) (by decide))) (skipT (notTup d1) (skipT (notTup d2) (skipT (notTup d3) h)))
theorem ck_tup {w : World} {x d td ud ol a : Addr} {t1 t2 t3 : Tok} {o1 o2 : Obj} {ws : List Value} {m : Nat} {R : Ledger} (hT : ToldD w o1 []) (hU : UsedD w o2 []) {vs : Array Value} {n : Nat} (h : (a, tupOf vs n) ∈ CK w x d td ud ol t1 t2 t3 o1 o2 ws m R) : (a, tupOf vs n) ∈ R := by
  obtain ⟨kt, hkt, _⟩ := hT.is
  obtain ⟨ku, hku, _⟩ := hU.is
  exact skipT (notTupC (by intro e9; first | cases e9; done | exact absurd (Value.type.inj e9) (by decide))) (skipT (notTupC (dict_cls hku)) (skipT (notTupC (dict_cls hkt)) (skipT (notTupC (by intro e9; first | cases e9; done | exact absurd (Value.type.inj e9) (by decide))) (skipT (notTupC (by intro e9; first | cases e9; done | exact absurd (Value.type.inj e9) (by decide))) h))))
/-- a row of told labels, with the tokens of the spots -/
theorem rd_told {L : Addr} {c1 c2 c3 : Obj} {ps : Array Value} {tl news : Ledger} {v1 v2 v3 : Option Value} (d1 : c1.data = .cell v1) (d2 : c2.data = .cell v2) (d3 : c3.data = .cell v3) {xs : List Value} {told : List (Lab × Nat × Value)} (h : All2 (ToIn (tl ++ TL L c1 c2 c3 ps news)) xs told) :
    ∃ ys : List (Lab × Nat × Value × Tok), All2 (ToIn' (tl ++ news)) xs ys ∧ told = ys.map fun y => (y.1, y.2.1, y.2.2.1) := by
  obtain ⟨ys, h1, h2⟩ := ToIn.toks h
  exact ⟨ys, h1.imp (ToIn'.monoT fun a vs n hp => (List.mem_append.mp hp).elim (fun h => List.mem_append_left _ h) fun h => List.mem_append_right _ (tl_tup d1 d2 d3 h)), h2⟩
theorem st_clean {w : World} {L x d td ud ol : Addr} {t1 t2 t3 : Tok} {o1 o2 c1 c2 c3 : Obj} {ps : Array Value} {tl2 R : Ledger} {v1 v2 v3 : Option Value} (d1 : c1.data = .cell v1) (d2 : c2.data = .cell v2) (d3 : c3.data = .cell v3) (hT : ToldD w o1 []) (hU : UsedD w o2 []) {ws : List Value} {ss : List Stm}
    (h : StmsIn (tl2 ++ CK w x d td ud ol t1 t2 t3 o1 o2 [] 0 (TL L c1 c2 c3 ps R)) ws ss) : StmsIn (tl2 ++ R) ws ss :=
  h.mono' fun a vs n hp => (List.mem_append.mp hp).elim (fun h => List.mem_append_left _ h) fun h => List.mem_append_right _ (tl_tup d1 d2 d3 (ck_tup hT hU h))
theorem Off.of {w : World} {x d td ud ol y a : Addr} {t1 t2 t3 : Tok} {o1 o2 : Obj} {vs : List Value} {n : Nat} {ps : Array Value} {pre R : Ledger} (h : ∀ p ∈ CK w x d td ud ol t1 t2 t3 o1 o2 vs n (pre ++ (164, tabObj ps) :: R), @LT.lt Nat _ p.1 y) : Off x d td ud ol y :=
  ⟨h (164, tabObj ps) (by k_slotget), Nat.ne_of_gt (h (x, instObj 111 d) (by k_slotget)), Nat.ne_of_gt (h (d, chkD w td ud ol t1 t2 t3) (by k_slotget)), Nat.ne_of_gt (h (td, o1) (by k_slotget)), Nat.ne_of_gt (h (ud, o2) (by k_slotget)), Nat.ne_of_gt (h (ol, listOf vs.toArray n) (by k_slotget))⟩
theorem Apart.off {x d td ud ol : Addr} {rest rest' : Ledger} (a : Apart x d td ud ol rest) (h : ∀ p ∈ rest', Off x d td ud ol p.1) : Apart x d td ud ol rest' :=
  { a with rx := fun p hp => (h p hp).2.1, rd := fun p hp => (h p hp).2.2.1, rt := fun p hp => (h p hp).2.2.2.1, ru := fun p hp => (h p hp).2.2.2.2.1, ro := fun p hp => (h p hp).2.2.2.2.2 }
/-- the five of the checker are behind the table -/
noncomputable def Five (x d td ud ol : Addr) : Prop := @LT.lt Nat _ 164 x ∧ @LT.lt Nat _ 164 d ∧ @LT.lt Nat _ 164 td ∧ @LT.lt Nat _ 164 ud ∧ @LT.lt Nat _ 164 ol
theorem Five.off {x d td ud ol : Addr} {ps : Array Value} {R : Ledger} (h : Five x d td ud ol) (a : Apart x d td ud ol R) (hr : ∀ p ∈ R, Off x d td ud ol p.1) : Apart x d td ud ol ((164, tabObj ps) :: R) :=
  { a with
    rx := all_cons (Nat.ne_of_lt h.1) fun p hp => (hr p hp).2.1
    rd := all_cons (Nat.ne_of_lt h.2.1) fun p hp => (hr p hp).2.2.1
    rt := all_cons (Nat.ne_of_lt h.2.2.1) fun p hp => (hr p hp).2.2.2.1
    ru := all_cons (Nat.ne_of_lt h.2.2.2.1) fun p hp => (hr p hp).2.2.2.2.1
    ro := all_cons (Nat.ne_of_lt h.2.2.2.2) fun p hp => (hr p hp).2.2.2.2.2 }
/-- what the checker's making tells of its addresses -/
theorem ck_lo {L x d td ud ol : Addr} {c1 c2 c3 : Obj} {ps : Array Value} {R : Ledger} (hab : ∀ q ∈ [x, d, td, ud, ol], ∀ p ∈ TL L c1 c2 c3 ps R, @LT.lt Nat _ p.1 q) : Five x d td ud ol ∧ Lo L x ∧ Lo L d ∧ Lo L td ∧ Lo L ud ∧ Lo L ol :=
  have h := fun q hq => Hi.of (hab q hq)
  ⟨⟨(h x (by k_slotget)).1, (h d (by k_slotget)).1, (h td (by k_slotget)).1, (h ud (by k_slotget)).1, (h ol (by k_slotget)).1⟩, (h x (by k_slotget)).lo, (h d (by k_slotget)).lo, (h td (by k_slotget)).lo, (h ud (by k_slotget)).lo, (h ol (by k_slotget)).lo⟩
/-- the ledger behind the three cells, all told -/
abbrev BL (w : World) (x d td ud ol sa : Addr) (t1 t2 t3 : Tok) (o1 o2 os : Obj) (ps : Array Value) (R : Ledger) : Ledger := (sa, os) :: CK w x d td ud ol t1 t2 t3 o1 o2 [] 0 ((164, tabObj ps) :: R)
theorem big_lo {w : World} {L x d td ud ol sa : Addr} {t1 t2 t3 : Tok} {o1 o2 os c1 c2 c3 : Obj} {ps : Array Value} {R tl2 : Ledger} (hR : ∀ p ∈ R, Lo L p.1) (hck : Five x d td ud ol ∧ Lo L x ∧ Lo L d ∧ Lo L td ∧ Lo L ud ∧ Lo L ol)
    (hs : ∀ b ∈ sa :: tl2.map (·.1), ∀ p ∈ CK w x d td ud ol t1 t2 t3 o1 o2 [] 0 (TL L c1 c2 c3 ps R), @LT.lt Nat _ p.1 b) :
    (∀ p ∈ BL w x d td ud ol sa t1 t2 t3 o1 o2 os ps (tl2 ++ R), Lo L p.1 ∨ p.1 = 164) ∧ ∀ b ∈ sa :: tl2.map (·.1), Off x d td ud ol b := by
  have hb : ∀ b ∈ sa :: tl2.map (·.1), Hi L b := fun b hb => Hi.of fun p hp => hs b hb p (by simp only [CK, List.mem_cons] at hp ⊢; exact .inr (.inr (.inr (.inr (.inr hp)))))
  refine ⟨?_, fun b hb => Off.of (a := L) (pre := [_, _, _]) (hs b hb)⟩
  refine all_cons (.inl (hb sa List.mem_cons_self).lo) (all_cons (.inl hck.2.1) (all_cons (.inl hck.2.2.1) (all_cons (.inl hck.2.2.2.1) (all_cons (.inl hck.2.2.2.2.1) (all_cons (.inl hck.2.2.2.2.2) (all_cons (.inr rfl) fun p hp => ?_))))))
  exact (List.mem_append.mp hp).elim (fun hp => .inl (hb p.1 (List.mem_cons_of_mem _ (List.mem_map_of_mem hp))).lo) fun hp => .inl (hR p hp)
theorem big_ne {L : Addr} {R : Ledger} (l : @LT.lt Nat _ 164 L) (h : ∀ p ∈ R, Lo L p.1 ∨ p.1 = 164) : (∀ p ∈ R, p.1 ≠ L + 1) ∧ (∀ p ∈ R, p.1 ≠ L + 1 + 1) ∧ ∀ p ∈ R, p.1 ≠ L + 1 + 1 + 1 := by
  refine ⟨fun p hp => ?_, fun p hp => ?_, fun p hp => ?_⟩
  all_goals
    rcases h p hp with h | h
    · obtain ⟨_, a, b, c⟩ := h; assumption
    · rw [h]
      first | exact Nat.ne_of_lt (Nat.lt_succ_of_lt l) | exact Nat.ne_of_lt (Nat.lt_succ_of_lt (Nat.lt_succ_of_lt l)) | exact Nat.ne_of_lt (Nat.lt_succ_of_lt (Nat.lt_succ_of_lt (Nat.lt_succ_of_lt l)))
theorem big_sub {w : World} {L x d td ud ol sa : Addr} {t1 t2 t3 : Tok} {o1 o2 os c1 c2 c3 : Obj} {ps : Array Value} {R tl2 : Ledger} : ∀ p ∈ (L + 1 + 1 + 1, c3) :: (L + 1 + 1, c2) :: (L + 1, c1) :: BL w x d td ud ol sa t1 t2 t3 o1 o2 os ps (tl2 ++ R), p ∈ (sa, os) :: (tl2 ++ CK w x d td ud ol t1 t2 t3 o1 o2 [] 0 (TL L c1 c2 c3 ps R)) := by k_slotset
/-- the ledger that the lambdas see -/
theorem low_off {L x d td ud ol sa : Addr} {oL oC oS os : Obj} {R tl2 : Ledger} {c1 c2 c3 : Obj} {ps : Array Value} (ha : Apart x d td ud ol (TL L c1 c2 c3 ps R)) (hR : ∀ p ∈ R, Lo L p.1) (l : @LT.lt Nat _ 164 L) (hs : ∀ b ∈ sa :: tl2.map (·.1), Off x d td ud ol b) :
    ∀ p ∈ (L + 1 + 1 + 1, oS) :: (L + 1 + 1, oC) :: (L + 1, oL) :: (sa, os) :: (tl2 ++ R), Off x d td ud ol p.1 := by
  have g : ∀ p ∈ TL L c1 c2 c3 ps R, @LT.lt Nat _ 164 p.1 → Off x d td ud ol p.1 := fun p hp h => ⟨h, ha.rx p hp, ha.rd p hp, ha.rt p hp, ha.ru p hp, ha.ro p hp⟩
  refine all_cons (g (L + 1 + 1 + 1, c3) (by k_slotget) (Nat.lt_succ_of_lt (Nat.lt_succ_of_lt (Nat.lt_succ_of_lt l)))) (all_cons (g (L + 1 + 1, c2) (by k_slotget) (Nat.lt_succ_of_lt (Nat.lt_succ_of_lt l))) (all_cons (g (L + 1, c1) (by k_slotget) (Nat.lt_succ_of_lt l)) (all_cons (hs sa List.mem_cons_self) fun p hp => ?_)))
  exact (List.mem_append.mp hp).elim (fun hp => hs p.1 (List.mem_cons_of_mem _ (List.mem_map_of_mem hp))) fun hp => g p (by k_slotget) (hR p hp).1
/-- the name of the lambdas' codes -/
noncomputable def lamQual : Str := Str.ofString "_law_steps_right" ++ ".<locals>." ++ "<lambda>"
noncomputable def CodeIn (R : Ledger) (c : Addr) (qual : Str) : Prop := ∃ oc vs t, (c, oc) ∈ R ∧ oc.data = .fields vs ∧ vs[1]? = some (.str qual t)
theorem CodeIn.mono {R R' : Ledger} {c : Addr} {qual : Str} (h : CodeIn R c qual) (hs : ∀ p ∈ R, p ∈ R') : CodeIn R' c qual := let ⟨oc, vs, t, a, b, e⟩ := h; ⟨oc, vs, t, hs _ a, b, e⟩
/-- as Con, of the call of _law_steps_right from the law, whose code is 166, its table 164 -/
noncomputable def ConS (w : World) (f : Addr) (dn un : Nat) (vs : List Value) (news : Ledger) (R : Value → Ledger → Prop) : Prop :=
  ∀ (p : Program) (loose : List Str) (mean : ExcName → Option Value) (mg mb : Str → Option Value) (dp u : Nat) (gd : Option (List Code)) (cn : Str) (cs : Scope) (a : Addr) (ccd : Value) (cl : List (Str × Addr)) (A₀ : Around) (h₀ : Heap) (L : Addr) (m : Str → Option Value) (h : Heap) (g : Array GenState) (d : Drawn) (tk : Nat) (o : OsState)
    (Q E : Value → Shared → Prop),
    Below A₀ h₀ [] h₀ → (K4 w.params).In h₀ → Top p loose mean mg mb h₀ → CodeHd h₀ 166 164 → cs.kind = .function → dp + dn < 900 → u + un < 9000 → Fr h₀ L h m → News h₀ L h news →
    (∀ r n' h' tk', Fr h₀ L h' m → News h₀ L h' n' → R r n' → Q r ⟨h', g, d, tk', o⟩) →
    wpAny (model PySem.Challenge.rw_xw0043_01.row.prog w) (ktrTop dp u gd cn cs L a ccd cl []) (call (.ref f) vs) Q E ⟨h, g, d, tk, o⟩
theorem turn0_fr {h₀ h₀' h1 h : Heap} {L : Addr} {m1 m : Str → Option Value} (K : KtsTurn [] h₀ h₀') (F0 : Fr h₀ L h1 m1) (F : Fr h₀' L h m) : Fr h₀ L h m :=
  ⟨F.ns, fun b o e => F.keep b o (K.other b o e (fun h => nomatch h)), F0.above⟩
theorem turn0_news {h₀ h₀' h : Heap} {L : Addr} {news : Ledger} (K : KtsTurn [] h₀ h₀') (N : News h₀' L h news) : News h₀ L h news := fun p hp => by
  obtain ⟨a, b, c⟩ := N p hp
  refine ⟨a, b, ?_⟩
  cases e : h₀.get? p.1 with
  | none => rfl
  | some o => rw [K.other _ o e (fun h => nomatch h)] at c; cases c
theorem cells_inv {cm : Str → Option Value} {n : Str} {c : Addr} {cs : List (Str × Addr)} {cells : List (Addr × Obj)} (x : CellsAre cm ((n, c) :: cs) cells) : ∃ o r, cells = (c, o) :: r ∧ o.data = .cell (cm n) ∧ CellsAre cm cs r := by
  cases x with | cons h r => exact ⟨_, _, rfl, h, r⟩
theorem CellsAre.three {cm : Str → Option Value} {n n' n'' : Str} {c c' c'' : Addr} {cells : List (Addr × Obj)} (x : CellsAre cm [(n, c), (n', c'), (n'', c'')] cells) : ∃ o o' o'', cells = [(c, o), (c', o'), (c'', o'')] ∧ o.data = .cell (cm n) ∧ o'.data = .cell (cm n') ∧ o''.data = .cell (cm n'') := by
  obtain ⟨o, r, e, h, y⟩ := cells_inv x
  obtain ⟨o', o'', e', h', h''⟩ := y.two
  exact ⟨o, o', o'', e.trans (e' ▸ rfl), h, h', h''⟩
theorem conS_enter3 {w : World} {f : Addr} {dn un : Nat} {vs : List Value} {news : Ledger} {R : Value → Ledger → Prop} {name qual : Str} {params : Arguments} {body : List Stmt} {scope : Scope} {dV kV doc pm cdv ct oc : Value} {an od : Option Addr} {osl : Array (Option Value)} {binds : List (Str × Value)} {x1 x2 x3 : Str}
    (ho : (K4 w.params).lookup f = some ⟨oc, od, .func (fnOf name qual params body scope dV kV doc pm an cdv ct), osl⟩) (hcd : codeIn (K4 w.params) cdv qual = true)
    (hbind : ∀ s, BindsTo s (fnOf name qual params body scope dV kV doc pm an cdv ct) ⟨vs, []⟩ binds) (hkind : (binds.all fun y => scope.names.lookup y.1 == some .local || scope.names.lookup y.1 == some .cell) = true)
    (hfl : true = (!scope.isCoroutine && !scope.isGenerator && (scope.kind == .function))) (hnd : ((cellsFrom 0 scope.names []).map (·.1)).Nodup) (hce : ∀ L, cellsFrom (L + 1) scope.names [] = [(x3, L + 1 + 1 + 1), (x2, L + 1 + 1), (x1, L + 1)])
    (hno : ∀ L, none = bindC (envOfC qual scope L f cdv).kindOf binds (fun _ => none) x1 ∧ none = bindC (envOfC qual scope L f cdv).kindOf binds (fun _ => none) x2 ∧ none = bindC (envOfC qual scope L f cdv).kindOf binds (fun _ => none) x3)
    (body_ : ∀ (p : Program) (loose : List Str) (mean : ExcName → Option Value) (mg mb : Str → Option Value) (dp u : Nat) (gd : Option (List Code)) (outer : List Env) (A : Around) (base g : Heap) (L : Addr) (h : Heap) (g9 : Array GenState) (d9 : Drawn) (tk : Nat) (o9 : OsState) (Q : Flow → Shared → Prop) (E : Value → Shared → Prop) (o1 o2 o3 : Obj),
      (K4 w.params).In base → Top p loose mean mg mb base → CodeHd base 166 164 → Below A base outer g → (K4 w.params).In g → Top p loose mean mg mb g → KtsDicts (outer.filterMap (·.frame)) g → CodeHd g 166 164 → dp + dn < 900 → u + un < 9000 →
      (∀ g' fl n' h' tk' m', KtsTurn (outer.filterMap (·.frame)) g g' → Fr g' L h' m' → News g' L h' n' → R (flv fl) n' → Q fl ⟨h', g9, d9, tk', o9⟩) → o1.data = .cell none → o2.data = .cell none → o3.data = .cell none → (∀ p ∈ news, @LT.lt Nat _ p.1 L) →
      let e9 := envX qual scope L f cdv [(x3, L + 1 + 1 + 1), (x2, L + 1 + 1), (x1, L + 1)]; let a9 := ktrTop dp u gd qual scope L f cdv [(x3, L + 1 + 1 + 1), (x2, L + 1 + 1), (x1, L + 1)] outer; let m9 := bindL (envOfC qual scope L f cdv).kindOf binds fun _ => none; let n9 : Ledger := (L + 1 + 1 + 1, o3) :: (L + 1 + 1, o2) :: (L + 1, o1) :: news
      Fr g L h m9 → News g L h n9 → wpAny (model PySem.Challenge.rw_xw0043_01.row.prog w) a9 (execs body e9) Q E ⟨h, g9, d9, tk, o9⟩) : ConS w f (dn + 1) (un + 3) vs news R := by
  intro p loose mean mg mb dp u gd cn cs a ccd cl A₀ h₀ L m h g d tk o Q E B X T CH hk hd hu F N ret
  simp only [Bool.true_eq, Bool.and_eq_true, Bool.not_eq_true', beq_iff_eq] at hfl
  obtain ⟨⟨hco, hgen⟩, hkd⟩ := hfl
  refine wpAny_call (enterS (s := ⟨h, g, d, tk, o⟩) B F X N T (fun _ h => nomatch h) rfl rfl hk ho hcd (by show dp < recursionLimit; have : recursionLimit = 1000 := rfl; omega) (hbind _) hkind hnd (fun g₁ L' h₁ tk₁ cells FG F' N' Y B' X' T' D' lt => ?_) hco hgen hkd)
  have Y := hce L' ▸ Y
  obtain ⟨o3, o2, o1, rfl, d3, d2, d1⟩ := Y.three
  have e0 : envOfC qual scope L' f cdv = envX qual scope L' f cdv [(x3, L' + 1 + 1 + 1), (x2, L' + 1 + 1), (x1, L' + 1)] := by unfold envOfC; rw [hce L']
  rw [e0]
  refine body_ p loose mean mg mb (dp + 1) (u + 3) _ [envX cn cs L a ccd cl] _ h₀ g₁ L' h₁ g d tk₁ o _ _ o1 o2 o3 X T CH B' X' T' D' (CodeHd.keeps CH B'.stays) (by omega) (by omega) (fun g' fl n' h' tk' m' t F₂ N₂ k => ⟨g', L', m', n', t, F₂, N₂, fun h₀' T9 F9 N9 B9 => ?_⟩) (d1.trans (congrArg _ (hno L').1.symm)) (d2.trans (congrArg _ (hno L').2.1.symm)) (d3.trans (congrArg _ (hno L').2.2.symm)) lt F' N'
  cases fl <;> exact ret _ n' h' tk' (turn0_fr T9 F F9) (turn0_news T9 N9) k
theorem heard_use {w : World} {q : Addr} {news : Ledger} {dn un : Nat} {R : Value → Ledger → Prop} {RE : Int → Ledger → Prop}
    {p : Program} {loose : List Str} {mean : ExcName → Option Value} {mg mb : Str → Option Value} {dp u : Nat} {gd : Option (List Code)} {cn : Str} {cs : Scope} {a : Addr} {ccd : Value} {cl : List (Str × Addr)} {outer : List Env} {A₀ : Around} {base h₀ : Heap} {L : Addr} {m : Str → Option Value} {h : Heap} {g : Array GenState} {d : Drawn} {tk : Nat} {o : OsState}
    {Q E : Value → Shared → Prop} (B : Below A₀ base outer h₀) (X : (K4 w.params).In h₀) (T : Top p loose mean mg mb h₀) (D : KtsDicts (outer.filterMap (·.frame)) h₀) (XB : (K4 w.params).In base) (TB : Top p loose mean mg mb base) (CB : CodeHd base 166 164)
    (hk : ScopeKind.function = cs.kind) (hd : dp + (dn + 6) < 900) (hu : u + (un + 60) < 9000) (F : Fr h₀ L h m) (N : News h₀ L h news) (hq : ∀ (h₀ h : Heap) (L : Addr), News h₀ L h news → (K4 w.params).In h → KeptAt (model PySem.Challenge.rw_xw0043_01.row.prog w) q h) (C : ConR w q dn un [] news R RE)
    (none_ : ∀ g', KtsTurn (outer.filterMap (·.frame)) h₀ g' → Below A₀ base outer g' → (K4 w.params).In g' → Top p loose mean mg mb g' → KtsDicts (outer.filterMap (·.frame)) g' → CodeHd g' 166 164 → ∀ r n0, R r n0 → let n9 := n0; ∀ h' tk', Fr g' L h' m → News g' L h' n9 → Q .none ⟨h', g, d, tk', o⟩)
    (int_ : ∀ g', KtsTurn (outer.filterMap (·.frame)) h₀ g' → Below A₀ base outer g' → (K4 w.params).In g' → Top p loose mean mg mb g' → KtsDicts (outer.filterMap (·.frame)) g' → CodeHd g' 166 164 → ∀ i t n0, RE i n0 → let n9 := n0; ∀ h' tk', Fr g' L h' m → News g' L h' n9 → Q (.int i t) ⟨h', g, d, tk', o⟩) :
    wpAny (model PySem.Challenge.rw_xw0043_01.row.prog w) (ktrTop dp u gd cn cs L a ccd cl outer) (call (.ref 162) [.ref q]) Q E ⟨h, g, d, tk, o⟩ :=
  heard w q news dn un R RE C hq p loose mean mg mb dp u gd cn cs a ccd cl outer A₀ base h₀ L m h g d tk o Q E B F X N T XB TB D hk.symm hd hu fun r n' h' tk' g' t F' N' B' hR => by
    rcases hR with ⟨rfl, r', n0, hR, hs⟩ | ⟨i, t', n0, rfl, hR, hs⟩
    · exact none_ g' t B' (XB.keeps B'.stays) (TB.keeps B'.stays) (D.turn t) (CodeHd.keeps CB B'.stays) r' n0 hR h' tk' F' (N'.perm hs)
    · exact int_ g' t B' (XB.keeps B'.stays) (TB.keeps B'.stays) (D.turn t) (CodeHd.keeps CB B'.stays) i t' n0 hR h' tk' F' (N'.perm hs)
/-- a lambda without parameters, called -/
theorem lam_enter {w : World} {f c' : Addr} {dn un : Nat} {news : Ledger} {R : Value → Ledger → Prop} {RE : Int → Ledger → Prop} {name qual : Str} {params : Arguments} {body : Expr} {scope : Scope} {cl : List (Str × Addr)} {pm ctv : Value}
    (ho : (f, kla_obj name qual params body scope cl pm c' ctv) ∈ news) (hcd : CodeIn news c' qual) (hbind : bindArgs (kla_fn name qual params body scope cl pm (.ref c') ctv) ⟨[], []⟩ = pure [])
    (hfl : true = (!scope.isCoroutine && !scope.isGenerator && (scope.kind == .function) && scope.names.all fun x => x.2 != .cell))
    (body_ : ∀ (p : Program) (loose : List Str) (mean : ExcName → Option Value) (mg mb : Str → Option Value) (dp u : Nat) (gd : Option (List Code)) (outer : List Env) (A : Around) (base g : Heap) (L : Addr) (h : Heap) (g9 : Array GenState) (d9 : Drawn) (tk : Nat) (o9 : OsState) (Q : Value → Shared → Prop) (E : Value → Shared → Prop),
      Below A base outer g → (K4 w.params).In g → Top p loose mean mg mb g → dp + dn < 900 → u + un < 9000 → (∀ r n' h' tk' m', Fr g L h' m' → News g L h' n' → R r n' → Q r ⟨h', g9, d9, tk', o9⟩) →
      let e9 := envX qual scope L f (.ref c') cl; let a9 := ktrTop dp u gd qual scope L f (.ref c') cl outer; let m9 : Str → Option Value := fun y => [].lookup y
      FliesOn base g L e9 outer g9 d9 o9 RE E → Fr g L h m9 → News g L h news → wpAny (model PySem.Challenge.rw_xw0043_01.row.prog w) a9 (eval body e9) Q E ⟨h, g9, d9, tk, o9⟩) : ConR w f (dn + 1) (un + 3) [] news R RE := by
  intro p loose mean mg mb dp u gd cn cs a ccd cl' outer A₀ base h₀ L m h g d tk o Q E B X T hk hd hu F N ret raise
  simp only [Bool.true_eq, Bool.and_eq_true, Bool.not_eq_true', beq_iff_eq] at hfl
  obtain ⟨⟨⟨hco, hgen⟩, hkd⟩, hcell⟩ := hfl
  have hc' : ∀ x ∈ scope.names, x.2 ≠ .cell := fun x hx => by
    have := List.all_eq_true.mp hcell x hx
    simpa using this
  obtain ⟨oc, vs, t, c1, c2, c3⟩ := hcd
  refine wpAny_call (kla_code (s := ⟨h, g, d, tk, o⟩) (A := ktrTop dp u gd cn cs L a ccd cl' outer) B F X N T rfl rfl hk ho (codeRec_news N c1 c2 c3) (by show dp < recursionLimit; have : recursionLimit = 1000 := rfl; omega) hbind (fun _ h => nomatch h) (fun g₁ L' h₁ FG F' N' B' X' T' => ?_) hco hgen hkd hc')
  refine body_ p loose mean mg mb (dp + 1) (u + 3) gd (envX cn cs L a ccd cl' :: outer) _ base g₁ L' h₁ g d _ o _ _ B' X' T' (by omega) (by omega) (fun v n' h' tk' m' F₂ N₂ k => leaveK_ F₂ N₂ fun F₃ N₃ => ret _ n' h' tk' F₃ N₃ k) ?_ F' N'
  intro e c oc i t n2 h2 tk2 g2 m2 hl F2 R2 up hr
  exact fly_leave_on (s' := ⟨h2, g, d, tk2, o⟩) B' F2 rfl R2 up fun h3 R3 up3 => raise e c oc i t n2 h3 tk2 g₁ hl FG R3 up3 hr
theorem lam_gen {M : Model} {A : Around} {E : Value → Shared → Prop} {h₀ : Heap} {L a : Addr} {m mg mb : Str → Option Value} {cn : Str} {cs : Scope} {ccd : Value} {cl : List (Str × Addr)} {p : Program} {loose : List Str} {mean : ExcName → Option Value} {h : Heap} {g : Array GenState} {d : Drawn} {tk : Nat} {o : OsState}
    {name qual : Str} {params : Arguments} {body : Expr} {scope : Scope} {ps : Array Value} {pos : Pos} {firstLine : Nat} {clos : List (Str × Addr)} {pre R cds : Ledger} {Q : Value → Shared → Prop} (P : Addr → Prop)
    (hP : ∀ y, (∀ p ∈ pre ++ (164, tabObj ps) :: R, @LT.lt Nat _ p.1 y) → P y) (F : Fr h₀ L h m) (N : News h₀ L h (pre ++ (164, tabObj ps) :: R)) (hpre : ∀ p ∈ pre, p.1 ≠ 164) (h4 : ∀ p ∈ R, p.1 ≠ 164) (hR : ∀ p ∈ R, P p.1) (T : Top p loose mean mg mb h₀) (C : CodeHd h₀ 166 164) (hcd : Value.ref 166 = ccd) (TT : TabOK qual ps cds) (hc : ∀ p ∈ cds, p ∈ R)
    (hcl : pure clos = closureFor scope (envX cn cs L a ccd cl))
    (q : ∀ f c' ctv ps' cds' R', (∀ p ∈ R, p ∈ R') → (∀ p ∈ R', P p.1) → (∀ p ∈ cds', p ∈ R') → TabOK qual ps' cds' → CodeIn R' c' qual →
      let n9 := (f, kla_obj name qual params body scope clos ((mg "__name__").getD .none) c' ctv) :: (pre ++ (164, tabObj ps') :: R'); ∀ h' tk', Fr h₀ L h' m → News h₀ L h' n9 → Q (.ref f) ⟨h', g, d, tk', o⟩) :
    wpAny M A (makeFunction name qual params (.expr body) scope (envX cn cs L a ccd cl) [] [] [] pos firstLine) Q E ⟨h, g, d, tk, o⟩ := by
  have ps1 : ∀ p ∈ (164, tabObj ps) :: (pre ++ R), p ∈ pre ++ (164, tabObj ps) :: R := fun p hp => by
    simp only [List.mem_cons, List.mem_append] at hp ⊢
    rcases hp with h | h | h
    · exact .inr (.inl h)
    · exact .inl h
    · exact .inr (.inr h)
  have ps2 : ∀ p ∈ pre ++ (164, tabObj ps) :: R, p ∈ (164, tabObj ps) :: (pre ++ R) := fun p hp => by
    simp only [List.mem_cons, List.mem_append] at hp ⊢
    rcases hp with h | h | h
    · exact .inr (.inl h)
    · exact .inl h
    · exact .inr (.inr h)
  refine lam_make (s := ⟨h, g, d, tk, o⟩) F (N.perm ps1) (fun p hp => (List.mem_append.mp hp).elim (hpre p) (h4 p)) T C hcd.symm TT (fun p hp => List.mem_append_right _ (hc p hp)) hcl.symm fun f c' ctv h' tk' ps' more oc vs t F' N' TT' hm hd hv l1 l2 => ?_
  refine q f c' ctv ps' (more ++ cds) (more ++ R) (fun p hp => List.mem_append_right _ hp) (fun p hp => ?_) (fun p hp => ?_) TT' ⟨oc, vs, t, ?_, hd, hv⟩ h' tk' F' (N'.perm fun p hp => ?_)
  · exact (List.mem_append.mp hp).elim (fun hp => hP _ fun q hq => l1 p hp q (ps2 q hq)) (hR p)
  · exact (List.mem_append.mp hp).elim (fun hp => List.mem_append_left _ hp) fun hp => List.mem_append_right _ (hc p hp)
  · exact (List.mem_append.mp hm).elim (fun hp => List.mem_append_left _ hp) fun hp => List.mem_append_right _ (hc _ hp)
  · simp only [List.mem_cons, List.mem_append] at hp ⊢
    rcases hp with h | h | h | h | h
    · exact .inl h
    · exact .inr (.inr (.inr (.inl h)))
    · exact .inr (.inl h)
    · exact .inr (.inr (.inl h))
    · exact .inr (.inr (.inr (.inr h)))
theorem lam_ck {M : Model} {A : Around} {E : Value → Shared → Prop} {h₀ : Heap} {L a : Addr} {m mg mb : Str → Option Value} {cn : Str} {cs : Scope} {ccd : Value} {cl : List (Str × Addr)} {p : Program} {loose : List Str} {mean : ExcName → Option Value} {h : Heap} {g : Array GenState} {d : Drawn} {tk : Nat} {o : OsState}
    {name qual : Str} {params : Arguments} {body : Expr} {scope : Scope} {ps : Array Value} {pos : Pos} {firstLine : Nat} {clos : List (Str × Addr)} {R cds : Ledger} {w : World} {x d9 td ud ol : Addr} {t1 t2 t3 : Tok} {o1 o2 : Obj} {k : Nat} {Q : Value → Shared → Prop}
    (F : Fr h₀ L h m) (N : News h₀ L h (CK w x d9 td ud ol t1 t2 t3 o1 o2 [] k ((164, tabObj ps) :: R))) (h5 : Five x d9 td ud ol) (hR : ∀ p ∈ R, Off x d9 td ud ol p.1) (T : Top p loose mean mg mb h₀) (C : CodeHd h₀ 166 164) (hcd : Value.ref 166 = ccd) (TT : TabOK qual ps cds) (hc : ∀ p ∈ cds, p ∈ R)
    (hcl : pure clos = closureFor scope (envX cn cs L a ccd cl))
    (q : ∀ f c' ctv ps' cds' R', (∀ p ∈ R, p ∈ R') → (∀ p ∈ R', Off x d9 td ud ol p.1) → (∀ p ∈ cds', p ∈ R') → TabOK qual ps' cds' → CodeIn R' c' qual →
      let n9 := (f, kla_obj name qual params body scope clos ((mg "__name__").getD .none) c' ctv) :: CK w x d9 td ud ol t1 t2 t3 o1 o2 [] k ((164, tabObj ps') :: R'); ∀ h' tk', Fr h₀ L h' m → News h₀ L h' n9 → Q (.ref f) ⟨h', g, d, tk', o⟩) :
    wpAny M A (makeFunction name qual params (.expr body) scope (envX cn cs L a ccd cl) [] [] [] pos firstLine) Q E ⟨h, g, d, tk, o⟩ :=
  lam_gen (pre := CK w x d9 td ud ol t1 t2 t3 o1 o2 [] k []) (Off x d9 td ud ol) (fun y hy => Off.of (a := L) (w := w) (t1 := t1) (t2 := t2) (t3 := t3) (o1 := o1) (o2 := o2) (vs := []) (n := k) (ps := ps) (pre := []) (R := R) hy) F N
    (all_cons (Nat.ne_of_gt h5.1) (all_cons (Nat.ne_of_gt h5.2.1) (all_cons (Nat.ne_of_gt h5.2.2.1) (all_cons (Nat.ne_of_gt h5.2.2.2.1) (all_cons (Nat.ne_of_gt h5.2.2.2.2) all_nil))))) (fun p hp => Nat.ne_of_gt (hR p hp).1) hR T C hcd TT hc hcl q
theorem lam_no {M : Model} {A : Around} {E : Value → Shared → Prop} {h₀ : Heap} {L a : Addr} {m mg mb : Str → Option Value} {cn : Str} {cs : Scope} {ccd : Value} {cl : List (Str × Addr)} {p : Program} {loose : List Str} {mean : ExcName → Option Value} {h : Heap} {g : Array GenState} {d : Drawn} {tk : Nat} {o : OsState}
    {name qual : Str} {params : Arguments} {body : Expr} {scope : Scope} {ps : Array Value} {pos : Pos} {firstLine : Nat} {clos : List (Str × Addr)} {R cds : Ledger} {Q : Value → Shared → Prop}
    (F : Fr h₀ L h m) (N : News h₀ L h ((164, tabObj ps) :: R)) (hR : ∀ p ∈ R, @LT.lt Nat _ 164 p.1) (T : Top p loose mean mg mb h₀) (C : CodeHd h₀ 166 164) (hcd : Value.ref 166 = ccd) (TT : TabOK qual ps cds) (hc : ∀ p ∈ cds, p ∈ R)
    (hcl : pure clos = closureFor scope (envX cn cs L a ccd cl))
    (q : ∀ f c' ctv ps' cds' R', (∀ p ∈ R, p ∈ R') → (∀ p ∈ R', @LT.lt Nat _ 164 p.1) → (∀ p ∈ cds', p ∈ R') → TabOK qual ps' cds' → CodeIn R' c' qual →
      let n9 := (f, kla_obj name qual params body scope clos ((mg "__name__").getD .none) c' ctv) :: (164, tabObj ps') :: R'; ∀ h' tk', Fr h₀ L h' m → News h₀ L h' n9 → Q (.ref f) ⟨h', g, d, tk', o⟩) :
    wpAny M A (makeFunction name qual params (.expr body) scope (envX cn cs L a ccd cl) [] [] [] pos firstLine) Q E ⟨h, g, d, tk, o⟩ :=
  lam_gen (pre := []) (fun y => @LT.lt Nat _ 164 y) (fun y hy => hy (164, tabObj ps) List.mem_cons_self) F N all_nil (fun p hp => Nat.ne_of_gt (hR p hp)) hR T C hcd TT hc hcl q
theorem slice_last {prog : Program} {w : World} {A : Around} {E : Value → Shared → Prop} {h : Heap} {g : Array GenState} {d : Drawn} {tk : Nat} {o : OsState} {value slice : PySem.Expr} {h₀ : Heap} {L l : Addr} {m : Str → Option Value} {news : Ledger} {wi : List Value} {v : Value} {n : Nat} {t : Tok} {Q : Value → Shared → Prop} (F : Fr h₀ L h m) (N : News h₀ L h news) (hm : (l, listOf (wi ++ [v]).toArray n) ∈ news) (hz : (wi ++ [v]).length ≤ 1000)
    (hs : subscripted slice false (.ref l) (.ref h.objs.size) = operate [.ref h.objs.size, .ref l] (getItem (.ref l) (.ref h.objs.size))) (ht : ∀ r, letTemporaryGo value (.ref l) r = pure ())
    (q : ∀ D, (∀ p ∈ news, @LT.lt Nat _ p.1 D) → let n9 := (D, listOf wi.toArray 0) :: news; ∀ h', Fr h₀ L h' m → News h₀ L h' n9 → Q (.ref D) ⟨h', g, d, tk, o⟩) :
    wpAny (model prog w) A (subscriptTail value slice (.ref l) (.ref h.objs.size)) Q E ⟨h.push { cls := .type "slice", data := .fields #[.none, .int (-1) t, .none] }, g, d, tk, o⟩ := by
  refine kms_slice_lit (s := ⟨h, g, d, tk, o⟩) (zs := wi) (lo := none) (hi := some (-1)) F N ⟨_, (N _ hm).1, rfl, n, rfl⟩ ?_ ?_ ?_ (fun D h' F' N' l => q D l h' F' N') hs ht ?_
  · exact .none
  · exact .int _ _
  · unfold kms_pick kms_lo kms_hi
    simp
  · rw [List.size_toArray]; exact Nat.le_trans hz (by decide)
/-- what the law's lambdas leave of a checker -/
inductive LamPost (w : World) (x d td ud ol : Addr) (t1 t2 t3 : Tok) (res : Except Nat CS) (rest : Ledger) : Value → Ledger → Prop
  | mk (c : CS) (o1 o2 : Obj) (k : Nat) (hrun : res = .ok c) (hT : ToldD w o1 c.told) (hU : UsedD w o2 c.led) : LamPost w x d td ud ol t1 t2 t3 res rest .none (CK w x d td ud ol t1 t2 t3 o1 o2 [] k rest)
inductive LamErr (res : Except Nat CS) (rest : Ledger) : Int → Ledger → Prop
  | mk (j : Nat) (h : res = .error j) : LamErr res rest (j : Int) rest
theorem ck_skip {w : World} {x d td ud ol : Addr} {t1 t2 t3 : Tok} {o1 o2 : Obj} {vs : List Value} {n : Nat} {pre rest : Ledger} : ∀ p ∈ CK w x d td ud ol t1 t2 t3 o1 o2 vs n rest, p ∈ CK w x d td ud ol t1 t2 t3 o1 o2 vs n (pre ++ rest) := by k_slotset
/-- what is kept behind the making of the statements -/
structure Kept (L sa to le : Addr) (oS oC oL : Obj) (ws : List Value) (en : Nat) (xt : List Value) (et : Nat) (xl : List Value) (el : Nat) (ss : List Stm) (tlv : List (Lab × Nat × Value × Tok)) (news R : Ledger) : Prop where
  cS : (L + 1 + 1 + 1, oS) ∈ R
  cC : (L + 1 + 1, oC) ∈ R
  cL : (L + 1, oL) ∈ R
  sa : (sa, listOf ws.toArray en) ∈ R
  to : (to, listOf xt.toArray et) ∈ R
  le : (le, listOf xl.toArray el) ∈ R
  st : StmsIn R ws ss
  tv : All2 (ToIn' R) xt tlv
  nw : ∀ p ∈ news, p ∈ R
theorem Kept.mono {L sa to le : Addr} {oS oC oL : Obj} {ws : List Value} {en : Nat} {xt : List Value} {et : Nat} {xl : List Value} {el : Nat} {ss : List Stm} {tlv : List (Lab × Nat × Value × Tok)} {news R R' : Ledger} (k : Kept L sa to le oS oC oL ws en xt et xl el ss tlv news R) (h : ∀ p ∈ R, p ∈ R') : Kept L sa to le oS oC oL ws en xt et xl el ss tlv news R' :=
  ⟨h _ k.cS, h _ k.cC, h _ k.cL, h _ k.sa, h _ k.to, h _ k.le, k.st.mono h, k.tv.imp (ToIn'.monoT fun _ _ _ => h _), fun p hp => h p (k.nw p hp)⟩
theorem Kept.of {L sa to le : Addr} {oS oC oL : Obj} {ws : List Value} {en : Nat} {xt : List Value} {et : Nat} {xl : List Value} {el : Nat} {ss : List Stm} {tlv : List (Lab × Nat × Value × Tok)} {news R tl2 : Ledger} (hto : (to, listOf xt.toArray et) ∈ R) (hle : (le, listOf xl.toArray el) ∈ R) (hst : StmsIn (tl2 ++ R) ws ss) (hTv : All2 (ToIn' R) xt tlv) (hn : ∀ p ∈ news, p ∈ R) :
    Kept L sa to le oS oC oL ws en xt et xl el ss tlv news ((L + 1 + 1 + 1, oS) :: (L + 1 + 1, oC) :: (L + 1, oL) :: (sa, listOf ws.toArray en) :: (tl2 ++ R)) := by
  have h : ∀ p ∈ R, p ∈ (L + 1 + 1 + 1, oS) :: (L + 1 + 1, oC) :: (L + 1, oL) :: (sa, listOf ws.toArray en) :: (tl2 ++ R) := fun p hp => by k_slotget
  exact ⟨by simp, by simp, by simp, by simp, h _ hto, h _ hle, hst.mono fun p hp => by simp only [List.mem_cons]; exact .inr (.inr (.inr (.inr hp))), hTv.imp (ToIn'.monoT fun _ _ _ => h _), fun p hp => h p (hn p hp)⟩
theorem big_end {w : World} {L x d td ud ol sa T : Addr} {t1 t2 t3 : Tok} {o1 o2 os oT oL oC oS : Obj} {ps : Array Value} {R : Ledger} : ∀ p ∈ CK w x d td ud ol t1 t2 t3 o1 o2 [] 0 ((164, tabObj ps) :: (L + 1 + 1 + 1, oS) :: (L + 1 + 1, oC) :: (L + 1, oL) :: (sa, os) :: R), p ∈ (T, oT) :: (L + 1 + 1 + 1, oS) :: (L + 1 + 1, oC) :: (L + 1, oL) :: BL w x d td ud ol sa t1 t2 t3 o1 o2 os ps R := by k_slotset
section
variable {w : World} {x d td ud ol f D : Addr} {t1 t2 t3 : Tok} {o1 o2 ko oD : Obj} {vs : List Value} {k : Nat} {ps : Array Value} {R rest any tl : Ledger}
theorem Five.off1 (h5 : Five x d td ud ol) (a : Apart x d td ud ol any) (hr : ∀ p ∈ R, Off x d td ud ol p.1) (l : ∀ p ∈ CK w x d td ud ol t1 t2 t3 o1 o2 vs k ((164, tabObj ps) :: R), @LT.lt Nat _ p.1 D) : Apart x d td ud ol ((D, oD) :: (164, tabObj ps) :: R) :=
  have g : Off x d td ud ol D := Off.of (a := x) (pre := []) l
  have a' := h5.off (ps := ps) (a.off hr) hr
  { a' with
    rx := all_cons g.2.1 a'.rx
    rd := all_cons g.2.2.1 a'.rd
    rt := all_cons g.2.2.2.1 a'.rt
    ru := all_cons g.2.2.2.2.1 a'.ru
    ro := all_cons g.2.2.2.2.2 a'.ro }
theorem lam_sub1 : ∀ p ∈ CK w x d td ud ol t1 t2 t3 o1 o2 vs k ((D, oD) :: rest), p ∈ (D, oD) :: (f, ko) :: CK w x d td ud ol t1 t2 t3 o1 o2 vs k rest := by k_slotset
theorem lam_sub3 : ∀ p ∈ CK w x d td ud ol t1 t2 t3 o1 o2 vs k rest, p ∈ (f, ko) :: CK w x d td ud ol t1 t2 t3 o1 o2 vs k rest := fun _ hp => List.mem_cons_of_mem _ hp
theorem use_sub : ∀ p ∈ CK w x d td ud ol t1 t2 t3 o1 o2 vs k ((D, oD) :: rest), p ∈ (f, ko) :: (D, oD) :: CK w x d td ud ol t1 t2 t3 o1 o2 vs k rest := by k_slotset
theorem lam_sub2 : ∀ p ∈ CK w x d td ud ol t1 t2 t3 o1 o2 vs k rest, p ∈ CK w x d td ud ol t1 t2 t3 o1 o2 vs k (tl ++ (D, oD) :: rest) := by k_slotset
end
section
variable {steps : List Step} {si : List Stm} {sl : Stm} {c1 c2 : CS} {fault : Option Nat} {told : List (Lab × Nat × Value × Tok)} {led : List Lab} {j : Nat} {vf : Value}
theorem steps_ok (hf : Fine 0 steps) (hsS : stmtsOf steps = si ++ [sl]) (h1 : chkAll si [] ⟨[], []⟩ = .ok c1) (h2 : chk sl [] c1 = .ok c2) (hrd : readGo 0 steps [] [] [] = (fault, (told.map fun y => (y.1, y.2.1, y.2.2.1)).map fun x => (x.1, x.2.1), led)) (hv : FaultV fault vf) :
    vf = .none ∧ c2.led = led ∧ (told.filter fun y => !led.contains y.1).map (fun y => (y.1, y.2.1)) = idleOf c2 := by
  have hpl := plain steps hf
  rw [hsS, chkAll_append, h1] at hpl
  simp only [chkAll, h2] at hpl
  rw [hrd] at hpl
  obtain ⟨rfl, hp2⟩ := Prod.mk.inj hpl
  obtain ⟨hp3, rfl⟩ := Prod.mk.inj hp2
  refine ⟨hv, rfl, ?_⟩
  unfold idleOf
  rw [← hp3, List.map_map, List.filter_map]
  rfl
theorem steps_bad {told : List (Lab × Nat)} (hf : Fine 0 steps) (h : chkAll (stmtsOf steps) [] ⟨[], []⟩ = .error j) (hrd : readGo 0 steps [] [] [] = (fault, told, led)) (hv : FaultV fault vf) : ∃ t, vf = .int (j : Int) t := by
  have hpl := plain steps hf
  rw [h, hrd] at hpl
  obtain rfl : fault = some j := hpl
  exact hv
theorem steps_bad2 (hsS : stmtsOf steps = si ++ [sl]) (h1 : chkAll si [] ⟨[], []⟩ = .ok c1) (h2 : chk sl [] c1 = .error j) : chkAll (stmtsOf steps) [] ⟨[], []⟩ = .error j := by
  rw [hsS, chkAll_append, h1]
  simp only [chkAll, h2]
theorem steps_no {c : CS} (h1 : chkAll si [] ⟨[], []⟩ = .error j) (h2 : chkAll (si ++ [sl]) [] ⟨[], []⟩ = .ok c) : False := by
  rw [chkAll_append, h1] at h2
  cases h2
end
theorem end_sub {news R cds : Ledger} {ps : Array Value} (hc : ∀ p ∈ cds, p ∈ R) (hn : ∀ p ∈ news, p ∈ R) : ∀ p ∈ (164, tabObj ps) :: (cds ++ news), p ∈ (164, tabObj ps) :: R := fun p hp => by
  rcases List.mem_cons.mp hp with rfl | hp
  · exact List.mem_cons_self
  · exact List.mem_cons_of_mem _ ((List.mem_append.mp hp).elim (hc p) (hn p))
theorem ConR.meth {w : World} {q f : Addr} {self : Value} {dn un : Nat} {vs : List Value} {news news' : Ledger} {R : Value → Ledger → Prop} {RE : Int → Ledger → Prop} (hq : (q, methodObj (.ref f) self) ∈ news') (hs : ∀ p ∈ news, p ∈ news') (C : ConRc w f dn un (self :: vs) news R RE) : ConR w q dn un vs news' R RE := by
  intro p loose mean mg mb dp u gd cn cs a ccd cl outer A₀ base h₀ L m h g d tk o Q E B X T hk hd hu F N ret raise
  exact call_meth (s := ⟨h, g, d, tk, o⟩) N hq (C p loose mean mg mb dp u gd cn cs a ccd cl outer A₀ base h₀ L m h g d tk o Q E B X T hk hd hu F (N.perm hs) ret raise)
theorem idle_hd {tlv : List (Lab × Nat × Value × Tok)} {l : Lab} {j : Nat} {r : List (Lab × Nat)} (h : tlv.map (fun y => (y.1, y.2.1)) = (l, j) :: r) : ∃ t ys v, (tlv.map fun y => Value.int (y.2.1 : Int) y.2.2.2) = ys ++ [v] ∧ (ys ++ [v])[(0 : Int).toNat]? = some (Value.int (j : Int) t) := by
  cases tlv with
  | nil => cases h
  | cons y ys =>
    rw [List.map_cons] at h
    injection h with e1 e2
    obtain ⟨_, e⟩ := Prod.mk.inj e1
    obtain ⟨ys', v, e'⟩ : ∃ ys' v, ((y :: ys).map fun y => Value.int (y.2.1 : Int) y.2.2.2) = ys' ++ [v] := ⟨_, _, (List.dropLast_concat_getLast (by simp)).symm⟩
    refine ⟨y.2.2.2, ys', v, e', ?_⟩
    rw [← e', ← e]
    rfl
theorem idle_no {tlv : List (Lab × Nat × Value × Tok)} (h : tlv.map (fun y => (y.1, y.2.1)) = []) : (tlv.map fun y => Value.int (y.2.1 : Int) y.2.2.2) = [] := by
  rw [List.map_eq_nil_iff.mp h, List.map_nil]

theorem fresh_Steps : True := by
  w_top off
  exact trivial
set_option maxRecDepth 100000 in
set_option maxHeartbeats 0 in
theorem steps_right (w : World) (lst : Addr) (vs : List Value) (steps : List Step) (n : Nat) (ps : Array Value) (cds news : Ledger) (hl : (lst, listOf vs.toArray n) ∈ news) (hs : StepsIn news vs steps) (hf : Fine 0 steps) (hz : steps.length ≤ 20) (hne : steps ≠ [])
    (l164 : ∀ p ∈ news, @LT.lt Nat _ 164 p.1) (hcds : ∀ p ∈ cds, p ∈ news) (TT : TabOK lamQual ps cds) :
    ConS w 167 500 5000 [.ref lst] ((164, tabObj ps) :: news) (fun r news' => r = .bool true ∧ ∃ ps' cds', (∀ p ∈ (164, tabObj ps') :: (cds' ++ news), p ∈ news') ∧ TabOK lamQual ps' cds' ∧ ∀ p ∈ cds', @LT.lt Nat _ 164 p.1) := by
  refine' conS_enter3 (x1 := Str.ofString "led") (x2 := Str.ofString "checker") (x3 := Str.ofString "statements") ?ho ?hcd ?hb ?hl ?hf ?hd ?hc ?hn ?_
  case ho => k_is
  case hcd => k_is
  case hb => exact fun _ => BindsTo.of_eq rfl
  case hl => exact rfl
  case hf => exact rfl
  case hd => decide +kernel
  case hc => exact fun _ => rfl
  case hn => exact fun _ => ⟨rfl, rfl, rfl⟩
  intro p loose mean mg mb dp u gd outer A base g L h g9 d9 tk o9 Q E c1 c2 c3 XB TB CB B X T Dk CH hd hu hq dc1 dc2 dc3 lL e9 a9 m9 n9 F N
  have hu9 : u + 4997 < cLine := Nat.lt_of_lt_of_le hu (by decide)
  k_steps
  refine Con.use (by k_asm) (by k_asm) (by k_asm) rfl (by lgec_go) (by lgec_go) (by k_asm) (by k_asm) (read (lst := lst) (vs := vs) (steps := steps) (n := n) (by lge_bears) (hs.mono fun p hp => by k_slotget) hf hz) ?_
  intro r n2 hR
  refine hideG fun X9 k9 => ?_
  cases hR with
  | mk D k vf to xt et le xl el tl told led fault hD hto hle hfr hT hL bt bl hrd hfv =>
  obtain ⟨tlv, hTv, rfl⟩ := rd_told dc1 dc2 dc3 hT
  have l4 : @LT.lt Nat _ 164 L := lL (164, tabObj ps) List.mem_cons_self
  have hR := rd_lo hfr lL l164
  obtain ⟨q1, q2, q3⟩ := lo_tab (ps := ps) hR l4
  obtain ⟨s1, s2, s3⟩ := three_ne L
  have hsub := rd_sub (L := L) (c1 := c1) (c2 := c2) (c3 := c3) (ps := ps) (tl := tl) (news := news)
  replace hD := List.mem_append_left news hD
  replace hto := List.mem_append_left news hto
  replace hle := List.mem_append_left news hle
  have hnR : ∀ p ∈ news, p ∈ tl ++ news := fun p hp => List.mem_append_right _ hp
  have hl1 := hnR _ hl
  have hs1 := hs.mono hnR
  refine k9 ?_
  clear k9
  intro n2 h2 tk2 F2 N2
  replace N2 := N2.perm hsub
  clear hsub hfr hT
  generalize tl ++ news = R at *
  refine setFN F2 N2 ?_
  intro m3 n3 F3 N3
  clear F2 N2 F N
  k_steps
  rename PySem.Obj => oL
  rename Obj.data oL = _ => dL
  refine Con.use (by k_asm) (by k_asm) (by k_asm) rfl (by lgec_go) (by lgec_go) (by k_asm) (by k_asm) mkck ?_
  intro r n4 hR4
  refine hideG fun X9 k9 => ?_
  cases hR4 with
  | mk x d td ud ol y1 y2 y3 p1 p2 hT1 hU1 lo1 lo2 ha hab =>
  have hck := ck_lo hab
  refine k9 ?_
  clear k9 hab
  intro n4 h4 tk4 F4 N4
  k_steps
  refine Con.use (by k_asm) (by k_asm) (by k_asm) rfl (by lgec_go) (by lgec_go) (by k_asm) (by k_asm) (statements (lst := lst) (vs := vs) (steps := steps) (n := n) (by lge_bears) (hs1.mono fun p hp => by k_slotget) hf hz) ?_
  intro sa ws en tl2 hsep hst n6 h6 tk6 F6 N6
  replace hst := st_clean dL dc2 dc3 hT1 hU1 hst
  obtain ⟨wi, vl, si, sl, rfl, hsS, -, -⟩ := hst.snoc (stmts_ne steps hf hne)
  obtain ⟨hsz1, hsz2⟩ := stmts_size steps hf
  rw [hsS] at hst hsz1 hsz2
  have hwl : (wi ++ [vl]).length ≤ 1000 := by rw [hst.length]; exact Nat.le_trans (Nat.le_trans hsz2 hz) (by decide)
  have hbig := big_lo (os := listOf (wi ++ [vl]).toArray en) hR hck hsep.2
  have hbo := big_ne l4 hbig.1
  obtain ⟨b1, b2, b3⟩ := hbo
  have hoff := fun oC oS => low_off (sa := sa) (oL := oL) (oC := oC) (oS := oS) (os := listOf (wi ++ [vl]).toArray en) (tl2 := tl2) ha hR l4 hbig.2
  have hkept := fun oC oS => Kept.of (L := L) (sa := sa) (oS := oS) (oC := oC) (oL := oL) (en := en) hto hle hst hTv hnR
  have hcR : ∀ p ∈ cds, p ∈ tl2 ++ R := fun p hp => List.mem_append_right _ (hnR p (hcds p hp))
  replace N6 := N6.perm big_sub
  refine setFN F6 N6 ?_
  intro m7 n7 F7 N7
  clear F6 N6 F4 N4 hst hTv hto hle hs1 hl1 hD hnR hR hbig
  k_steps
  rename_i oC dC _ _ oS dS _ _ F8 N8
  have hR3 := hoff oC oS
  have kp3 := hkept oC oS
  have hc3 : ∀ p ∈ cds, p ∈ (L + 1 + 1 + 1, oS) :: (L + 1 + 1, oC) :: (L + 1, oL) :: (sa, listOf (wi ++ [vl]).toArray en) :: (tl2 ++ R) := fun p hp => List.mem_cons_of_mem _ (List.mem_cons_of_mem _ (List.mem_cons_of_mem _ (List.mem_cons_of_mem _ (hcR p hp))))
  replace N8 := N8.perm big_end
  clear hoff hkept hcR b1 b2 b3
  generalize (L + 1 + 1 + 1, oS) :: _ = R3 at hR3 kp3 hc3 N8
  have h5 := hck.1
  clear hck
  have hts1 : ht.hts si ≤ 20 := by rw [hts_app] at hsz1; omega
  have hts3 : ht.hts (si ++ [sl]) ≤ 20 := Nat.le_trans hsz1 hz
  have hts2 : ht sl ≤ 20 := by rw [hts_app] at hsz1; simp only [ht.hts] at hsz1; omega
  k_dflt (refine' kla_eval ?d0 ?_; (case d0 => exact rfl))
  refine lam_ck F8 N8 h5 hR3 T CH rfl TT hc3 rfl ?_
  intro f c' ctv psa cda R4 h34 hR4 hc4 TT4 hcode n9 h9 tk9 F9 N9
  replace kp3 := kp3.mono h34
  have mC := kp3.cC
  have mS := kp3.cS
  have mA := kp3.sa
  clear F8 N8
  k_steps
  have C : ConR w f 300 4500 [] n9 (LamPost w x d td ud ol y1 y2 y3 (chkAll si [] ⟨[], []⟩) ((164, tabObj psa) :: R4)) (LamErr (chkAll si [] ⟨[], []⟩) ((164, tabObj psa) :: R4)) := by
    --[A
    refine' lam_enter List.mem_cons_self (hcode.mono fun p hp => by k_slotget) ?hb ?hf ?_
    case hb => exact rfl
    case hf => exact rfl
    intro p loose mean mg mb dp u gd outer A base g L h g9 d9 tk o9 Q E B X T hd hu hq e9 a9 m9 hE F1 N1
    k_steps
    dsimp only
    refine slice_last F1 N1 (by lge_bears) hwl (by with_unfolding_all rfl) (by kmk_pure) ?_
    intro D5 l5 n5 h5' F5 N5
    clear F1 N1
    k_steps
    refine ConR.use (by k_asm) (by k_asm) (by k_asm) rfl (all_of w 20 (checks w 20) ((D5, listOf wi.toArray 0) :: (164, tabObj psa) :: R4) D5 wi 0 si (.inl List.mem_cons_self) (kp3.st.parts.1.mono fun p hp => List.mem_cons_of_mem _ (List.mem_cons_of_mem _ hp)) hts1 x d td ud ol y1 y2 y3 p1 p2 [] 0 [] ⟨[], []⟩ (h5.off1 ha hR4 fun p hp => l5 p (List.mem_cons_of_mem _ hp)) .nil (fun _ h => nomatch h) hT1 hU1 lo1 lo2 (by decide)) (by omega) (by omega) (by k_asm) (N5.perm lam_sub1) hE ?raise ?ret
    case raise =>
      rintro i n' ⟨⟨j, rfl, hj⟩, hm2⟩
      exact ⟨_, fun p hp => hm2 p (List.mem_cons_of_mem _ hp), .mk j hj⟩
    case ret =>
      intro r n' hR
      refine hideG fun X9 k9 => ?_
      cases hR with
      | mk c' o1' o2' n'' tl3 hrun hT' hU' hab3 =>
      refine k9 ?_
      clear k9
      intro n9 h' tk' F3 N3
      k_steps
      exact hq _ _ _ _ _ F3 (N3.perm lam_sub2) (.mk c' o1' o2' n'' hrun hT' hU')
    --]A
  refine heard_use B X T Dk XB TB CB rfl (by omega) (by omega) F9 N9 (fun h0 h1 L1 N1 X1 => keeps_F _ (FnAt.of N1 List.mem_cons_self)) C ?none ?int
  case none =>
    clear C F9 N9 mC mS mA B X T Dk CH hcode
    intro g1 tr1 B X T Dk CH r n0 hR
    refine hideG fun X9 k9 => ?_
    cases hR with
    | mk d1 s1 s2 k1 hrun1 hT1' hU1' =>
    refine k9 ?_
    clear k9
    intro n9 h9 tk9 F9 N9
    k_steps
    k_dflt (refine' kla_eval ?d0 ?_; (case d0 => exact rfl))
    refine lam_ck (by k_asm) (by k_asm) h5 hR4 T CH rfl TT4 hc4 rfl ?_
    intro f c' ctv psb cdb R5 h45 hR5 hc5 TT5 hcode n9 h9 tk9 F9 N9
    replace kp3 := kp3.mono h45
    have mC := kp3.cC
    have mS := kp3.cS
    have mA := kp3.sa
    have fin : ∀ g' h' tk' m', KtsTurn (outer.filterMap (·.frame)) g g' → Fr g' L h' m' → News g' L h' ((164, tabObj psb) :: R5) → Q (.ret (.bool true)) ⟨h', g9, d9, tk', o9⟩ := fun g' h' tk' m' t F N => hq g' _ _ h' tk' m' t F N ⟨rfl, psb, cdb, end_sub hc5 kp3.nw, TT5, fun p hp => (hR5 p (hc5 p hp)).1⟩
    k_steps
    have C : ConR w f 300 4500 [] n9 (LamPost w x d td ud ol y1 y2 y3 (chk sl [] d1) ((164, tabObj psb) :: R5)) (LamErr (chk sl [] d1) ((164, tabObj psb) :: R5)) := by
      --[B
      refine' lam_enter List.mem_cons_self (hcode.mono fun p hp => by k_slotget) ?hb ?hf ?_
      case hb => exact rfl
      case hf => exact rfl
      intro p loose mean mg mb dp u gd outer A base g L h g9 d9 tk o9 Q E B X T hd hu hq e9 a9 m9 hE F1 N1
      k_steps
      refine Ev.run (Ev.last (by k_asm) (by lge_bears) (fun _ _ _ => rfl)) ?_
      k_steps
      refine ConR.use (by k_asm) (by k_asm) (by k_asm) rfl (checks w 20 ((164, tabObj psb) :: R5) vl sl (kp3.st.parts.2.mono fun p hp => List.mem_cons_of_mem _ hp) hts2 x d td ud ol y1 y2 y3 s1 s2 [] k1 [] d1 (h5.off (ha.off hR5) hR5) .nil (fun _ h => nomatch h) hT1' hU1' lo1 lo2 (by decide)) (by omega) (by omega) (by k_asm) (N1.perm lam_sub3) hE ?raise ?ret
      case raise =>
        rintro i n' ⟨⟨j, rfl, hj⟩, hm2⟩
        exact ⟨_, hm2, .mk j hj⟩
      case ret =>
        intro r n' hR
        refine hideG fun X9 k9 => ?_
        cases hR with
        | mk c' o1' o2' n'' tl3 hrun hT' hU' hab3 =>
        refine k9 ?_
        clear k9
        intro n9 h' tk' F3 N3
        k_steps
        exact hq _ _ _ _ _ F3 (N3.perm ck_skip) (.mk c' o1' o2' n'' hrun hT' hU')
      --]B
    refine heard_use B X T Dk XB TB CB rfl (by omega) (by omega) F9 N9 (fun h0 h1 L1 N1 X1 => keeps_F _ (FnAt.of N1 List.mem_cons_self)) C ?none2 ?int2
    case none2 =>
      clear C F9 N9 mC mS mA B X T Dk CH hcode
      intro g2 tr2 B X T Dk CH r n0 hR
      refine hideG fun X9 k9 => ?_
      cases hR with
      | mk d2 u1 u2 k2 hrun2 hT2' hU2' =>
      obtain ⟨hvf, e2, hidle⟩ := steps_ok hf hsS hrun1 hrun2 hrd hfv
      have lxt : xt.length ≤ sizeLine := by
        rw [kp3.tv.length]
        rw [List.length_map] at bt
        exact Nat.le_trans bt (by decide)
      have mT := kp3.to
      have mE := kp3.le
      have mL := kp3.cL
      have mC := kp3.cC
      refine k9 ?_
      clear k9
      intro n9 h9 tk9 F9 N9
      refine setFN (frSet (y := Str.ofString "fault") F9 (congrArg some hvf)) N9 ?_
      intro m9 n9 F N
      clear F9 N9
      k_steps
      rename Fr _ _ _ _ => F9
      rename News _ _ _ _ => N9
      refine CompOver.list (l := to) (vs := xt) (xs := tlv) (n := et) (RR := ToIn' R5) (p := fun (y : Lab × Nat × Value × Tok) => !led.contains y.1) (g := fun (y : Lab × Nat × Value × Tok) => Value.int (y.2.1 : Int) y.2.2.2) rfl F9 N9 (by lge_bears) lxt kp3.tv ?_ ?_
      · --[G
        rintro v ⟨yl, yi, yv, yt⟩ - ⟨a9, n8, rfl, hm9, hly, hyt⟩
        obtain ⟨t0, rfl⟩ : ∃ t0, yv = .str yl.text t0 := hly.str (tells_no hyt)
        have hsim := LeIn.simple hL
        have hin : (!(xl.any fun y => simEq y (.str yl.text t0))) = !led.contains yl := by rw [LeIn.has hly hL]
        exact ⟨_, .pair (by lge_bears) rfl rfl (by decide), CompTurn.ev1 rfl (by
          intro C s oC m₂ I oI D oD hC hb n9 F N
          have hb0 := hb (Str.ofString "label", _) List.mem_cons_self
          have hb1 := hb (Str.ofString "spot", _) (List.mem_cons_of_mem _ List.mem_cons_self)
          exact ⟨by walk_at "pe", by walk_at "pe"⟩)⟩
        --]G
      · intro D9 h9 tk9 n3 lt F0 N0 h' tk' F N
        clear F0 N0 F9 N9
        refine setFN F N ?_
        intro m10 n10 F9 N9
        clear F N
        k_steps
        rename_i q' hq' F9 N9 lq'
        refine heard_use B X T Dk XB TB CB rfl (by omega) (by omega) F9 N9 (fun h0 h1 L1 N1 X1 => keeps_M (K := K4 w.params) (f := 108) (self := .ref x) (by k_is) _ ⟨(N1 _ List.mem_cons_self).1, X1⟩) (ConR.meth (f := 108) (self := .ref x) List.mem_cons_self use_sub (used w x d td ud ol y1 y2 y3 u1 u2 [] k2 ((D9, _) :: (164, tabObj psb) :: R5) d2 (h5.off1 ha hR5 lt) hT2' hU2' lo1 lo2)) ?none3 ?int3
        case none3 =>
          clear F9 N9 B X T Dk CH
          intro g3 tr3 B X T Dk CH r n0 hR
          refine hideG fun X9 k9 => ?_
          obtain ⟨_, hid, hsu⟩ := hR
          have hno := idle_no (hidle.trans hid)
          refine k9 ?_
          clear k9
          intro n9 h9 tk9 F N
          refine setFN F (N.perm (hno ▸ hsu)) ?_
          intro m11 n11 F9 N9
          clear F N
          k_steps
          rename_i F N _
          exact fin g3 _ _ _ ((tr1.trans tr2).trans tr3) F (News.perm (news' := (164, tabObj psb) :: R5) N (by k_slotset))
        case int3 =>
          clear F9 N9 B X T Dk CH
          intro g3 tr3 B X T Dk CH i t n0 hR
          refine hideG fun X9 k9 => ?_
          obtain ⟨⟨l9, j9, r9, rfl, hid⟩, hsu⟩ := hR
          obtain ⟨t9, ys9, v9, hcs, hc0⟩ := idle_hd (hidle.trans hid)
          refine k9 ?_
          clear k9
          intro n9 h9 tk9 F N
          refine setFN F (N.perm (hcs ▸ hsu)) ?_
          intro m11 n11 F9 N9
          clear F N
          k_steps
          rename_i F N _
          rw [beq_self_eq_true]
          exact fin g3 _ _ _ ((tr1.trans tr2).trans tr3) F (News.perm (news' := (164, tabObj psb) :: R5) N (by k_slotset))
    case int2 =>
      --[F
      clear C F9 N9 mC mS mA B X T Dk CH hcode
      intro g2 tr2 B X T Dk CH i t n0 hR
      refine hideG fun X9 k9 => ?_
      cases hR with
      | mk j hj =>
      obtain ⟨tv, hvf⟩ := steps_bad hf (steps_bad2 hsS hrun1 hj) hrd hfv
      refine k9 ?_
      clear k9
      intro n9 h9 tk9 F9 N9
      refine setFN (frSet (y := Str.ofString "fault") F9 (congrArg some hvf)) N9 ?_
      intro m9 n9 F N
      clear F9 N9
      k_steps
      · rename _ ≠ _ => ab
        exact absurd rfl ab
      · rename Fr _ _ _ _ => F
        rename News _ _ _ _ => N
        exact fin g2 _ _ _ (tr1.trans tr2) F N
      --]F
  case int =>
    --[H
    clear C F9 N9 mC mS mA B X T Dk CH hcode
    intro g1 tr1 B X T Dk CH i t n0 hR
    refine hideG fun X9 k9 => ?_
    cases hR with
    | mk j hj =>
    refine k9 ?_
    clear k9
    intro n9 h9 tk9 F9 N9
    k_steps
    k_dflt (refine' kla_eval ?d0 ?_; (case d0 => exact rfl))
    refine lam_no (by k_asm) (by k_asm) (fun p hp => (hR4 p hp).1) T CH rfl TT4 hc4 rfl ?_
    intro f c' ctv psb cdb R5 h45 hR5 hc5 TT5 hcode n9 h9 tk9 F9 N9
    replace kp3 := kp3.mono h45
    have mS := kp3.cS
    have mA := kp3.sa
    have fin : ∀ g' h' tk' m', KtsTurn (outer.filterMap (·.frame)) g g' → Fr g' L h' m' → News g' L h' ((164, tabObj psb) :: R5) → Q (.ret (.bool true)) ⟨h', g9, d9, tk', o9⟩ := fun g' h' tk' m' t F N => hq g' _ _ h' tk' m' t F N ⟨rfl, psb, cdb, end_sub hc5 kp3.nw, TT5, fun p hp => hR5 p (hc5 p hp)⟩
    k_steps
    have C : ConR w f 300 4500 [] n9 (fun _ _ => False) (LamErr (chkAll (si ++ [sl]) [] ⟨[], []⟩) ((164, tabObj psb) :: R5)) := by
      refine' lam_enter List.mem_cons_self (hcode.mono fun p hp => by k_slotget) ?hb ?hf ?_
      case hb => exact rfl
      case hf => exact rfl
      intro p loose mean mg mb dp u gd outer A base g L h g9 d9 tk o9 Q E B X T hd hu hq e9 a9 m9 hE F1 N1
      have hu9 : u + 4497 < cLine := Nat.lt_of_lt_of_le hu (by decide)
      have hd9 : dp + 299 < recursionLimit := Nat.lt_trans hd (by decide)
      k_steps
      refine Con.use (by k_asm) (by k_asm) (by k_asm) rfl (by lgec_go) (by lgec_go) (by k_asm) (by k_asm) mkck ?_
      intro r n4 hR4
      refine hideG fun X9 k9 => ?_
      cases hR4 with
      | mk x d td ud ol y1 y2 y3 p1 p2 hT1 hU1 lo1 lo2 ha hab =>
      refine k9 ?_
      clear k9 hab F1 N1
      intro n4 h4 tk4 F4 N4
      k_steps
      refine ConR.use (by k_asm) (by k_asm) (by k_asm) rfl (all_of w 20 (checks w 20) n9 sa (wi ++ [vl]) en (si ++ [sl]) (.inl (by lge_bears)) (kp3.st.mono fun p hp => List.mem_cons_of_mem _ (List.mem_cons_of_mem _ hp)) hts3 x d td ud ol y1 y2 y3 p1 p2 [] 0 [] ⟨[], []⟩ ha .nil (fun _ h => nomatch h) hT1 hU1 lo1 lo2 (by decide)) (by omega) (by omega) (by k_asm) N4 hE ?raise ?ret
      case raise =>
        rintro i n' ⟨⟨j, rfl, hj⟩, hm2⟩
        exact ⟨_, fun p hp => hm2 p (List.mem_cons_of_mem _ hp), .mk j hj⟩
      case ret =>
        intro r n' hR
        refine hideG fun X9 k9 => ?_
        cases hR with
        | mk c' o1' o2' n'' tl3 hrun hT' hU' hab3 => exact (steps_no hj hrun).elim
    refine heard_use B X T Dk XB TB CB rfl (by omega) (by omega) F9 N9 (fun h0 h1 L1 N1 X1 => keeps_F _ (FnAt.of N1 List.mem_cons_self)) C ?none4 ?int4
    case none4 =>
      intro _ _ _ _ _ _ _ _ _ hR
      exact hR.elim
    case int4 =>
      clear C F9 N9 B X T Dk CH hcode
      intro g2 tr2 B X T Dk CH i t n0 hR
      refine hideG fun X9 k9 => ?_
      cases hR with
      | mk j hj =>
      obtain ⟨tv, hvf⟩ := steps_bad hf (hsS ▸ hj) hrd hfv
      refine k9 ?_
      clear k9
      intro n9 h9 tk9 F9 N9
      refine setFN (frSet (y := Str.ofString "fault") F9 (congrArg some hvf)) N9 ?_
      intro m9 n9 F N
      clear F9 N9
      k_steps
      · rename _ ≠ _ => ab
        exact absurd rfl ab
      · rename Fr _ _ _ _ => F
        rename News _ _ _ _ => N
        exact fin g2 _ _ _ (tr1.trans tr2) F N
    --]H

theorem fresh_SpoolC : True := by
  w_top off
  exact trivial
/-- as Con, the list `script` in the ground -/
noncomputable def ConL (w : World) (la : Addr) (ws : List Value) (f : Addr) (dn un : Nat) (vs : List Value) (news : Ledger) (R : (Value → Ledger → Prop) → Prop) : Prop :=
  ∀ (p : Program) (loose : List Str) (mean : ExcName → Option Value) (mg mb : Str → Option Value) (dp u : Nat) (gd : Option (List Code)) (cn : Str) (cs : Scope) (a : Addr) (ccd : Value) (cl : List (Str × Addr)) (outer : List Env) (A₀ : Around) (base h₀ : Heap) (L : Addr) (m : Str → Option Value) (h : Heap) (g : Array GenState) (d : Drawn) (tk : Nat) (o : OsState)
    (Q E : Value → Shared → Prop),
    Below A₀ base outer h₀ → (K4 w.params).In h₀ → Top p loose mean mg mb h₀ → cs.kind = .function → h₀.IsList la ws.toArray → dp + dn < recursionLimit → u + un < cLine → Fr h₀ L h m → News h₀ L h news →
    R (fun r news' => let n9 := news'; ∀ h' tk', Fr h₀ L h' m → News h₀ L h' n9 → Q r ⟨h', g, d, tk', o⟩) →
    wpAny (model PySem.Challenge.rw_xw0043_01.row.prog w) (ktrTop dp u gd cn cs L a ccd cl outer) (call (.ref f) vs) Q E ⟨h, g, d, tk, o⟩
set_option maxRecDepth 100000 in
set_option maxHeartbeats 0 in
theorem spool {w : World} {la : Addr} {ws : List Value} {zs : List Int} {news : Ledger} (hI : IntsAre ws zs) (hz : zs.length ≤ 63) :
    ConL w la ws 122 2 20 [.ref la] news (fun K => ∀ sp o, Spool o → (∀ p ∈ news, @LT.lt Nat _ p.1 sp) → K (.ref sp) ((sp, o) :: news)) := by
  intro p loose mean mg mb dp u gd cn cs a ccd cl outer A₀ base h₀ L m h g d tk o Q E B X T hk hL hd hu F N ret
  refine wpAny_call ?_
  refine' code_enter B X T hk.symm ?hdd F N ?ho ?hcd ?hb ?hl ?hf ?_
  case hdd => exact Nat.lt_of_le_of_lt (Nat.le_add_right _ _) hd
  case ho => k_is
  case hcd => k_is
  case hb => exact fun _ => BindsTo.of_eq rfl
  case hl => exact rfl
  case hf => exact rfl
  intro A g1 LL h1 tk1 Q' B' X' T' FG hq e9 a9 m9 F1 N1
  have hL1 : g1.IsList la ws.toArray := let ⟨o, e, r⟩ := hL; ⟨o, FG.keep _ _ e, r⟩
  have hL2 : h1.IsList la ws.toArray := let ⟨o, e, r⟩ := hL1; ⟨o, F1.keep _ _ e, r⟩
  k_steps
  all_goals
    rename_i kF kN l1
    refine hq _ _ _ _ _ kF kN fun F8 N8 => ret _ _ ⟨_, _, _, _, _, ?_, Int.fmod_nonneg_of_pos _ (by decide), Int.fmod_lt_of_pos _ (by decide), rfl⟩ l1 _ _ F8 N8
    clear ret kF kN hq
    first | assumption | decide | omega

local macro_rules | `(tactic| walk_at "call ref") => `(tactic| (k_here; (with_reducible rename ParkHere => pk9); (with_reducible first | show wpAny _ _ (call (Value.ref 167) _ _) _ _ _ | show wpAny _ _ (call (Value.ref 122) _ _) _ _ _ | show wpAny _ _ (call (Value.ref 174) _ _) _ _ _); k_dflt (refine unpark ?_)))
local macro_rules | `(tactic| walk_at "eval IfExp") => `(tactic| (k_here; (with_reducible rename ParkHere => pk9); k_dflt (refine unpark ?_)))
theorem fresh_LawDef : True := by
  w_top off
  exact trivial
theorem ghost_K3 {P : PySem.Params} {h : Heap} (X : (K4 P).In h) : (K4 P).In (ghostOf h [(166, 164)]) := fun a o e => by
  refine ghost_ne (X a o e) ?_
  have h1 := List.all_eq_true.mp (no164 P) (a, o) (mem_of_lookupK e)
  intro h2
  have h3 : a = 164 := List.mem_singleton.mp h2
  subst h3
  exact absurd (show ((164 : Nat) != 164) = true from h1) (by decide)
theorem ConS.use {w : World} {f : Addr} {dn un : Nat} {vs : List Value} {news : Ledger} {R : Value → Ledger → Prop}
    {p : Program} {loose : List Str} {mean : ExcName → Option Value} {mg mb : Str → Option Value} {dp u : Nat} {gd : Option (List Code)} {cn : Str} {cs : Scope} {a : Addr} {ccd : Value} {cl : List (Str × Addr)} {A₀ : Around} {h₀ : Heap} {L : Addr} {m : Str → Option Value} {h : Heap} {g : Array GenState} {d : Drawn} {tk : Nat} {o : OsState}
    {Q E : Value → Shared → Prop} (B : Below A₀ h₀ [] h₀) (X : (K4 w.params).In h₀) (T : Top p loose mean mg mb h₀) (CH : CodeHd h₀ 166 164) (hk : ScopeKind.function = cs.kind) (hd : dp + dn < 900) (hu : u + un < 9000) (F : Fr h₀ L h m) (N : News h₀ L h news) (C : ConS w f dn un vs news R)
    (ret : ∀ r n', R r n' → let n9 := n'; ∀ h' tk', Fr h₀ L h' m → News h₀ L h' n9 → Q r ⟨h', g, d, tk', o⟩) :
    wpAny (model PySem.Challenge.rw_xw0043_01.row.prog w) (ktrTop dp u gd cn cs L a ccd cl []) (call (.ref f) vs) Q E ⟨h, g, d, tk, o⟩ :=
  C p loose mean mg mb dp u gd cn cs a ccd cl A₀ h₀ L m h g d tk o Q E B X T CH hk.symm hd hu F N fun r n' h' tk' F' N' hR => ret r n' hR h' tk' F' N'
theorem ConL.use {w : World} {la : Addr} {ws : List Value} {f : Addr} {dn un : Nat} {vs : List Value} {news : Ledger} {R : (Value → Ledger → Prop) → Prop}
    {p : Program} {loose : List Str} {mean : ExcName → Option Value} {mg mb : Str → Option Value} {dp u : Nat} {gd : Option (List Code)} {cn : Str} {cs : Scope} {a : Addr} {ccd : Value} {cl : List (Str × Addr)} {outer : List Env} {A₀ : Around} {base h₀ : Heap} {L : Addr} {m : Str → Option Value} {h : Heap} {g : Array GenState} {d : Drawn} {tk : Nat} {o : OsState}
    {Q E : Value → Shared → Prop} (B : Below A₀ base outer h₀) (X : (K4 w.params).In h₀) (T : Top p loose mean mg mb h₀) (hl : h₀.IsList la ws.toArray) (hk : ScopeKind.function = cs.kind) (hd : dp + dn < recursionLimit) (hu : u + un < cLine) (F : Fr h₀ L h m) (N : News h₀ L h news) (C : ConL w la ws f dn un vs news R)
    (ret : R (fun r news' => let n9 := news'; ∀ h' tk', Fr h₀ L h' m → News h₀ L h' n9 → Q r ⟨h', g, d, tk', o⟩)) :
    wpAny (model PySem.Challenge.rw_xw0043_01.row.prog w) (ktrTop dp u gd cn cs L a ccd cl outer) (call (.ref f) vs) Q E ⟨h, g, d, tk, o⟩ :=
  C p loose mean mg mb dp u gd cn cs a ccd cl outer A₀ base h₀ L m h g d tk o Q E B X T hk.symm hl hd hu F N ret
theorem rot5 {g h : Heap} {L : Addr} {a b c d e : Addr × Obj} (N : News g L h [a, b, c, d, e]) : News g L h (e :: [a, b, c, d]) := N.perm fun p hp => by
  simp only [List.mem_cons, List.not_mem_nil, or_false] at hp ⊢
  grind
theorem StepsIn.nil {nw : Ledger} : StepsIn nw [] [] := ⟨rfl, fun _ _ _ h => nomatch h⟩
theorem StepsIn.snoc {nw : Ledger} {vs : List Value} {ss : List Step} {v : Value} {s : Step} (h : StepsIn nw vs ss) (hx : StepIn nw v s) : StepsIn nw (vs ++ [v]) (ss ++ [s]) := by
  obtain ⟨e, h⟩ := h
  refine ⟨by simp [e], fun i v' s' hv hs => ?_⟩
  by_cases hi : i < vs.length
  · rw [List.getElem?_append_left hi] at hv
    rw [List.getElem?_append_left (by omega)] at hs
    exact h i v' s' hv hs
  · rw [List.getElem?_append_right (by omega)] at hv
    rw [List.getElem?_append_right (by omega), ← e] at hs
    cases hj : i - vs.length with
    | zero => rw [hj] at hv hs; cases hv; cases hs; exact hx
    | succ j => rw [hj] at hv; exact absurd hv (by simp)
/-- how deep a row of steps stands behind its last one; none where it ends what is not begun -/
noncomputable def deepOf : Nat → List Step → Option Nat
  | d, [] => some d
  | d, .beg k l :: r => if k.left = false → l = .no then deepOf (d + 1) r else none
  | 0, .fin :: _ => none
  | d + 1, .fin :: r => deepOf d r
  | d, .lead _ _ :: r => deepOf d r
theorem deepOf_fine : ∀ (ss : List Step) (d e : Nat), deepOf d ss = some e → Fine d ss
  | [], _, _, _ => by unfold Fine; trivial
  | .beg k l :: r, d, e, h => by
    unfold deepOf at h
    split at h
    · rename_i hc
      cases d <;> exact ⟨hc, deepOf_fine r _ e h⟩
    · cases h
  | .fin :: r, 0, e, h => by cases h
  | .fin :: r, d + 1, e, h => deepOf_fine r d e h
  | .lead b l :: r, d, e, h => by
    have h' : deepOf d r = some e := by cases d <;> exact h
    cases d <;> exact deepOf_fine r _ e h'
theorem deepOf_snoc : ∀ (ss : List Step) (d e : Nat) (s : Step), deepOf d ss = some e → deepOf d (ss ++ [s]) = deepOf e [s]
  | [], d, e, s, h => by
    have : d = e := by unfold deepOf at h; exact Option.some.inj h
    rw [this]; rfl
  | .beg k l :: r, d, e, s, h => by
    unfold deepOf at h
    split at h
    · rename_i hc
      rw [List.cons_append, ← deepOf_snoc r _ e s h]
      conv => lhs; unfold deepOf
      rw [if_pos hc]
    · cases h
  | .fin :: r, 0, e, s, h => by cases h
  | .fin :: r, d + 1, e, s, h => deepOf_snoc r d e s h
  | .lead b l :: r, d, e, s, h => by
    have h' : deepOf d r = some e := by cases d <;> exact h
    have := deepOf_snoc r d e s h'
    rw [← this, List.cons_append]
    cases d <;> rfl
theorem law_keep {x : Addr × Obj} {a b : Ledger} : ∀ p ∈ x :: a, p ∈ x :: (a ++ b) := fun p hp => (List.mem_cons.mp hp).elim (fun h => h ▸ List.mem_cons_self) fun h => List.mem_cons_of_mem _ (List.mem_append_left _ h)
section
variable {sp l : Addr} {tl low : Ledger}
theorem law_ne1 (hls : @LT.lt Nat _ sp l) (h1 : ∀ p ∈ tl, @LT.lt Nat _ l p.1) (h2 : ∀ p ∈ low, @LT.lt Nat _ p.1 sp) : ∀ p ∈ tl ++ low, p.1 ≠ sp := fun p hp => (List.mem_append.mp hp).elim (fun hp => Nat.ne_of_gt (Nat.lt_trans hls (h1 p hp))) fun hp => Nat.ne_of_lt (h2 p hp)
theorem law_ne2 (hls : @LT.lt Nat _ sp l) (h1 : ∀ p ∈ tl, @LT.lt Nat _ l p.1) (h2 : ∀ p ∈ low, @LT.lt Nat _ p.1 sp) : ∀ p ∈ tl ++ low, p.1 ≠ l := fun p hp => (List.mem_append.mp hp).elim (fun hp => Nat.ne_of_gt (h1 p hp)) fun hp => Nat.ne_of_lt (Nat.lt_trans (h2 p hp) hls)
theorem law_up {o1 o2 : Obj} {cds : Ledger} (h : @LT.lt Nat _ 164 sp) (hls : @LT.lt Nat _ sp l) (h1 : ∀ p ∈ tl, @LT.lt Nat _ l p.1) (h2 : ∀ p ∈ cds, @LT.lt Nat _ 164 p.1) : ∀ p ∈ (l, o1) :: (sp, o2) :: (tl ++ cds), @LT.lt Nat _ 164 p.1 :=
  all_cons (Nat.lt_trans h hls) (all_cons h fun p hp => (List.mem_append.mp hp).elim (fun hp => Nat.lt_trans (Nat.lt_trans h hls) (h1 p hp)) (h2 p))
theorem law_two {x y z : Addr × Obj} {a b : Ledger} : ∀ p ∈ [x, y], p ∈ y :: (a ++ z :: x :: b) := fun p hp => by
  rcases List.mem_cons.mp hp with rfl | hp
  · exact List.mem_cons_of_mem _ (List.mem_append_right _ (List.mem_cons_of_mem _ List.mem_cons_self))
  · rw [List.mem_singleton.mp hp]
    exact List.mem_cons_self
end
theorem law_cut {M : Model} {A : Around} {t : Sem Flow} {Q : Flow → Shared → Prop} {E : Value → Shared → Prop} {h : Heap} {g : Array GenState} {d : Drawn} {tk : Nat} {o : OsState} (P : Heap → Prop) (fin : ∀ h' tk', P h' → Q (.ret (.bool true)) ⟨h', g, d, tk', o⟩)
    (main : ∀ Q' : Flow → Shared → Prop, (∀ h' tk', P h' → Q' (.ret (.bool true)) ⟨h', g, d, tk', o⟩) → wpAny M A t Q' nvr ⟨h, g, d, tk, o⟩) : wpAny M A t Q E ⟨h, g, d, tk, o⟩ := wpAny_mono (main Q fin) (fun _ _ x => x) fun _ _ x => x.elim
theorem letEA {M : Model} {A : Around} {body : List Stmt} {env : Env} {Q : Flow → Shared → Prop} {E : Value → Shared → Prop} {s : Shared} (k : let e9 := env; let a9 := A; wpAny M a9 (execs body e9) Q E s) : wpAny M A (execs body env) Q E s := k
theorem if_cut {M : Model} {A : Around} {e : Expr} {env : Env} {h : Heap} {g : Array GenState} {d : Drawn} {tk : Nat} {o : OsState} {Q E : Value → Shared → Prop} (h1 : wpAny M A (eval e env) (fun v s' => (∃ n t, v = .int n t ∧ 1 ≤ n ∧ n ≤ 12) ∧ ∃ tk, s' = ⟨h, g, d, tk, o⟩) E ⟨h, g, d, tk, o⟩)
    (h2 : ∀ n t tk, 1 ≤ n → n ≤ 12 → Q (.int n t) ⟨h, g, d, tk, o⟩) : wpAny M A (eval e env) Q E ⟨h, g, d, tk, o⟩ := wpAny_mono h1 (by rintro v s' ⟨⟨n, t, rfl, a, b⟩, tk, rfl⟩; exact h2 n t tk a b) fun _ _ e => e
/-- the law's loop: what stands between two turns -/
inductive LawJ (sp l : Addr) (low : Ledger) (i : Nat) (m : Str → Option Value) : Ledger → Prop
  | mk (dp : Nat) (t : Tok) (o' : Obj) (vs : List Value) (ss : List Step) (n : Nat) (tl : Ledger) (hm1 : m (Str.ofString "spool") = some (.ref sp)) (hm2 : m (Str.ofString "steps") = some (.ref l)) (hm3 : m (Str.ofString "deep") = some (.int (dp : Int) t)) (hS : Spool o')
    (hst : StepsIn tl vs ss) (hlen : ss.length = i) (hdp : deepOf 0 ss = some dp) (hgl : ∀ p ∈ tl, @LT.lt Nat _ l p.1) : LawJ sp l low i m ((l, listOf vs.toArray n) :: (sp, o') :: (tl ++ low))
theorem range_n {k : Int} (h1 : 0 ≤ k) (h2 : k < 12) : Builtin.Range.rangeSize 0 (3 + k) 1 = (((3 + k).toNat : Nat) : Int) := by
  unfold Builtin.Range.rangeSize
  rw [if_pos (by decide), if_pos (by omega), Int.ediv_one]
  omega
theorem range_small {k : Int} (h1 : 0 ≤ k) (h2 : k < 12) : Builtin.Range.small 0 (3 + k) 1 = true := by
  obtain ⟨n, rfl⟩ : ∃ n : Nat, k = n := ⟨k.toNat, by omega⟩
  exact (by decide : ∀ n : Nat, n < 12 → Builtin.Range.small 0 (3 + (n : Int)) 1 = true) n (by omega)
theorem law_turn {h₀ h' hs : Heap} {g9 : Array GenState} {d9 : Drawn} {t9 : Nat} {o9 : OsState} {L I l sp T : Addr} {oI o'' : Obj} {low R tl all : Ledger} {i n dp dp' k : Nat} {m : Str → Option Value} {vs : List Value} {ss : List Step} {st : Step} {tup : Array Value} {Q : Flow → Shared → Prop} {tk : Nat} {dI : Int} {t : Tok}
    (F : Fr h₀ L h' m) (N : News h₀ L h' all) (hRd : tl ++ low = R)
    (sub : ∀ p ∈ (I, oI) :: (l, listOf (vs ++ [Value.ref T]).toArray n) :: (sp, o'') :: (T, tupOf tup k) :: R, p ∈ all)
    (hne : ∀ p ∈ R, p.1 ≠ I) (hIl : @Ne Nat l I) (hIs : @Ne Nat sp I) (hIT : @Ne Nat T I) (hlT : @LT.lt Nat _ l T)
    (hm1 : m (Str.ofString "spool") = some (.ref sp)) (hm2 : m (Str.ofString "steps") = some (.ref l)) (hm3 : m (Str.ofString "deep") = some (.int dI t)) (hS : Spool o'') (hst : StepsIn tl vs ss) (hlen : ss.length = i) (hdp : deepOf 0 ss = some dp) (hgl : ∀ p ∈ tl, @LT.lt Nat _ l p.1)
    (hx : StepIn ((T, tupOf tup k) :: tl) (.ref T) st) (hd' : deepOf dp [st] = some dp') (hdI : dI = (dp' : Int)) :
    TurnEnd h₀ L I oI (LawJ sp l low (i + 1)) ⟨hs, g9, d9, t9, o9⟩ Q .next ⟨h', g9, d9, tk, o9⟩ := by
  subst hRd
  refine TurnEnd.of F N sub (all_cons hIl (all_cons hIs (all_cons hIT hne))) (.mk dp' t o'' (vs ++ [Value.ref T]) (ss ++ [st]) n ((T, tupOf tup k) :: tl) hm1 hm2 (hdI ▸ hm3) hS ((hst.mono fun p hp => List.mem_cons_of_mem _ hp).snoc hx) (by simp [hlen]) (by rw [deepOf_snoc ss 0 dp st hdp, hd']) (all_cons hlT hgl))
theorem labOf {v : Value} {t1 t2 t3 t4 : Tok} (h : v ∈ [Value.none, .str (Str.ofString "A") t1, .str (Str.ofString "A") t2, .str (Str.ofString "B") t3, .str (Str.ofString "_") t4]) : ∃ l, LabV l v := by
  simp only [List.mem_cons, List.not_mem_nil, or_false] at h
  rcases h with rfl | rfl | rfl | rfl | rfl
  · exact ⟨_, .no⟩
  · exact ⟨_, .a⟩
  · exact ⟨_, .a⟩
  · exact ⟨_, .b⟩
  · exact ⟨_, .u⟩
section
variable {w : Str} {r : Value} {D : Addr} {t t0 t1 t2 t3 t4 t5 u1 u2 u3 u4 : Tok} {tl : Ledger}
theorem beg5_in (h : Value.str w t ∈ [Value.str (Str.ofString "for") t1, .str (Str.ofString "range") t2, .str (Str.ofString "switch") t3, .str (Str.ofString "typeswitch") t4, .str (Str.ofString "choose") t5]) (hr : r ∈ [Value.none, .str (Str.ofString "A") u1, .str (Str.ofString "A") u2, .str (Str.ofString "B") u3, .str (Str.ofString "_") u4]) :
    ∃ k l, k.left = true ∧ StepIn ((D, tupOf #[.str (Str.ofString "begin") t0, .str w t, r] 0) :: tl) (.ref D) (.beg k l) := by
  obtain ⟨l, hl⟩ := labOf hr
  simp only [List.mem_cons, List.not_mem_nil, or_false, Value.str.injEq] at h
  rcases h with ⟨rfl, _⟩ | ⟨rfl, _⟩ | ⟨rfl, _⟩ | ⟨rfl, _⟩ | ⟨rfl, _⟩
  · exact ⟨.for, l, rfl, .beg List.mem_cons_self hl⟩
  · exact ⟨.range, l, rfl, .beg List.mem_cons_self hl⟩
  · exact ⟨.switch, l, rfl, .beg List.mem_cons_self hl⟩
  · exact ⟨.typeswitch, l, rfl, .beg List.mem_cons_self hl⟩
  · exact ⟨.choose, l, rfl, .beg List.mem_cons_self hl⟩
theorem beg2_in (h : Value.str w t ∈ [Value.str (Str.ofString "block") t1, .str (Str.ofString "if") t2]) : ∃ k, StepIn ((D, tupOf #[.str (Str.ofString "begin") t0, .str w t, .none] 0) :: tl) (.ref D) (.beg k .no) := by
  simp only [List.mem_cons, List.not_mem_nil, or_false, Value.str.injEq] at h
  rcases h with ⟨rfl, _⟩ | ⟨rfl, _⟩
  · exact ⟨.block, .beg List.mem_cons_self .no⟩
  · exact ⟨.iff, .beg List.mem_cons_self .no⟩
theorem lead_in (h : Value.str w t ∈ [Value.str (Str.ofString "break") t1, .str (Str.ofString "break") t2, .str (Str.ofString "continue") t3]) (hr : r ∈ [Value.none, .str (Str.ofString "A") u1, .str (Str.ofString "A") u2, .str (Str.ofString "B") u3, .str (Str.ofString "_") u4]) :
    ∃ b l, StepIn ((D, tupOf #[.str (Str.ofString "lead") t0, .str w t, r] 0) :: tl) (.ref D) (.lead b l) := by
  obtain ⟨l, hl⟩ := labOf hr
  simp only [List.mem_cons, List.not_mem_nil, or_false, Value.str.injEq] at h
  rcases h with ⟨rfl, _⟩ | ⟨rfl, _⟩ | ⟨rfl, _⟩
  · exact ⟨true, l, .lead (brk := true) List.mem_cons_self hl⟩
  · exact ⟨true, l, .lead (brk := true) List.mem_cons_self hl⟩
  · exact ⟨false, l, .lead (brk := false) List.mem_cons_self hl⟩
end
theorem Ev.andV {prog : Program} {w : World} {A : Around} {s : Shared} {env : Env} {k k1 k2 : Nat} {a b : Expr} {pos : Pos} {x y : Bool} (h1 : Ev prog w A s k (eval a env) (.bool x) k1) (h2 : Ev prog w A s k1 (eval b env) (.bool y) k2) : Ev prog w A s k (eval (.BoolOp .And [a, b] pos) env) (.bool (x && y)) (cond x k2 k1) :=
  .mk fun _ _ h => BoolOp_and (h1.go _ _ (wpAny_truthy_bool (by
    cases x
    · exact h
    · exact h2.go _ _ h)))
theorem deepA {k : Int} {dp : Nat} (h : k < 5) : ((dp : Int) + if decide (k < 5) = true then 1 else 0) - (if (k == 5 && decide ((0 : Int) < dp)) = true then 1 else 0) = ((dp + 1 : Nat) : Int) := by
  have e : (k == 5) = false := beq_false_of_ne (Int.ne_of_lt h)
  rw [decide_eq_true h, e]
  rfl
theorem deepB {k : Int} {dp : Nat} (h : (k == 5 && decide ((0 : Int) < dp)) = true) : ((dp : Int) + if decide (k < 5) = true then 1 else 0) - (if (k == 5 && decide ((0 : Int) < dp)) = true then 1 else 0) = ((dp - 1 : Nat) : Int) := by
  rw [if_pos h]
  obtain ⟨h1, h2⟩ := Bool.and_eq_true_iff.mp h
  rw [eq_of_beq h1]
  have := of_decide_eq_true h2
  show (dp : Int) + 0 - 1 = _
  omega
theorem deepC {k : Int} {dp : Nat} (h1 : ¬ k < 4) (h2 : k ≠ 4) (h : (k == 5 && decide ((0 : Int) < dp)) = false) : ((dp : Int) + if decide (k < 5) = true then 1 else 0) - (if (k == 5 && decide ((0 : Int) < dp)) = true then 1 else 0) = (dp : Int) := by
  rw [h, decide_eq_false (by omega)]
  exact (Int.sub_zero _).trans (Int.add_zero _)
theorem and_deep {k : Int} {dp : Nat} (h : (k == 5 && decide ((0 : Int) < dp)) = true) : (0 : Int) < dp := of_decide_eq_true (Bool.and_eq_true_iff.mp h).2
theorem deepOf_left {dp : Nat} {k : Kd} {l : Lab} (h : k.left = true) : deepOf dp [.beg k l] = some (dp + 1) := by
  unfold deepOf; rw [if_pos (by rw [h]; intro e; cases e)]; rfl
theorem deepOf_none {dp : Nat} {k : Kd} : deepOf dp [.beg k .no] = some (dp + 1) := by
  unfold deepOf; rw [if_pos fun _ => rfl]; rfl
theorem deepOf_fin {dp : Nat} (h : (0 : Int) < dp) : deepOf dp [.fin] = some (dp - 1) := by
  cases dp with
  | zero => exact absurd h (by decide)
  | succ n => rfl
theorem deepOf_lead {dp : Nat} {b : Bool} {l : Lab} : deepOf dp [.lead b l] = some dp := by cases dp <;> rfl

theorem fresh_Law : True := by
  w_top off
  exact trivial
section
local macro_rules | `(tactic| walk_at "exec For Name Call cons nil") => `(tactic| (k_here; (with_reducible rename ParkHere => pk9); k_dflt (refine unpark ?_)))
local macro_rules | `(tactic| walk_at "pe") => `(tactic| ((with_reducible apply Ev.andV); walk_at "pe"; walk_at "pe"))
set_option maxRecDepth 100000 in
set_option maxHeartbeats 0 in
theorem law_holds : PySem.Challenge.rw_xw0043_01.Holds := by
  refine tp ?_
  k_fill
  intro w s₀ s₁ mg mb G Y fa o pm cd doc dV kV ho hd1 hcd hD hmg hg args vals as hpre hlay hrd hwl hlo
  have KX := km_in_of Y.1
  have V := (Ground.X G).2
  refine Ground.open G ?_
  intro T B D TE TW
  try (refine guard_noD D (by decide +kernel) ?_; clear D)
  have hT9 : TabsAt [(166, 164)] s₁.heap := List.forall_mem_cons.mpr ⟨⟨codeHd_of_K KX (by kernel_rfl), km_tabs_of Y.1 164 (List.mem_singleton.mpr rfl)⟩, fun _ h => nomatch h⟩
  replace KX := k4_of KX Y.2
  clear hmg
  wrow_args hpre hlay hrd hwl hlo
  all_goals (
    first | refine callC_kw (enter_call ?_) | refine enter_call ?_
    w_top on
    kn_posts
    w_call any ho hd1 hcd hD T F
    clear hd1)
  rename_i zs hs9 hlay9 hL9 hr9 hl29 w2 w3 la ws w4 hLs ra w1 r0 hI hrr hc1 hc2 h1 N0
  have B1 := ghost_below hT9
  have X1 := ghost_K3 KX
  have T1 := ghost_top hT9 T
  have C1 : True ∧ CodeHd (ghostOf s₁.heap [(166, 164)]) 166 164 := ⟨trivial, (ghost_code hT9).1⟩
  have N1 := ghost_news hT9 F N0
  have F1 := ghost_fr hT9 F
  have L1 := ghost_list hT9 hLs
  have l0 : @LT.lt Nat _ 164 s₁.heap.objs.size := ghost_lt hT9 F (164, tabObj #[]) (by simp [tabNews])
  simp only [tabNews, List.map_cons, List.map_nil, List.nil_append] at N1
  clear N0 KX F T hLs hs9 hlay9 hL9 hr9 hl29 ra w1 r0 hrr hc2 G Y ho hcd hD V B TE TW
  revert X1
  k_fill
  intro X1
  refine law_cut (fun h' => ∃ m' ps, Fr (ghostOf s₁.heap [(166, 164)]) s₁.heap.objs.size h' m' ∧ News (ghostOf s₁.heap [(166, 164)]) s₁.heap.objs.size h' [(164, tabObj ps)]) ?fin ?_
  case fin =>
    rintro h' tk' ⟨m', ps, F9, N9⟩
    dsimp only
    k_steps
  intro Q hq
  have pk : ParkHere := ⟨⟩
  dsimp only
  try k_fold
  generalize ghostOf s₁.heap [(166, 164)] = g0 at *
  generalize s₁.heap.objs.size = L at *
  refine letEA ?_
  intro e9 a9
  k_steps
  rename_i D1 _ _ _ _ q1 D2 _ _ _ _ q2 D3 _ _ _ _ q3 l9 _ _ _ _ F9 N9 q4
  replace q1 : @LT.lt Nat _ 164 D1 := by k_ne
  have q2a : @LT.lt Nat _ 164 D2 := by k_ne
  have q3a : @LT.lt Nat _ 164 D3 := by k_ne
  have q4a : @LT.lt Nat _ 164 l9 := by k_ne
  refine ConS.use B1 X1 T1 C1.2 rfl (by decide) (by decide) F9 (N9.perm (by k_slotset)) (steps_right w l9 [.ref D1, .ref D2, .ref D3] [.beg .for .a, .lead true .a, .fin] 0 #[] [] [(l9, _), (D3, _), (D2, _), (D1, _)] List.mem_cons_self (((StepsIn.nil.snoc (.beg (k := .for) (n := 0) (by k_mem) .a)).snoc (.lead (brk := true) (n := 0) (by k_mem) .a)).snoc (.fin (n := 0) (by k_mem))) (deepOf_fine _ _ 0 rfl) (by decide) (by decide) (all_cons q4a (all_cons q3a (all_cons q2a (all_cons q1 all_nil)))) all_nil .nil) ?_
  intro r n2 hR
  refine hideG fun X9 k9 => ?_
  obtain ⟨rfl, ps9, cds9, hsub, TT9, hgt⟩ := hR
  refine k9 ?_
  clear k9
  intro n9 h9 tk9 F N
  refine setFN F (News.perm (news' := (164, tabObj ps9) :: cds9) N fun p hp => hsub p (law_keep p hp)) ?_
  intro m9 n9 F9 N9
  clear F N hsub q1 q2 q3 q4 q2a q3a q4a
  k_steps
  refine ConL.use B1 X1 T1 L1 rfl (by decide) (by decide) F9 (by k_asm) (spool hI (by omega)) ?_
  clear hI hc1 L1
  intro sp o4 hS4 hsp n9 h9 tk9 F9 N9
  refine hideG fun X9 k9 => ?_
  obtain ⟨x4, y4, u4, v4, e4, hx4, hy4, hy4', rfl⟩ := id hS4
  refine k9 ?_
  clear k9
  k_steps
  refine if_cut ?i1 ?i2
  case i1 =>
    rename ParkHere => pk8
    clear pk8
    k_steps
    all_goals exact ⟨_, rfl⟩
  case i2 =>
    intro nd td9 tk10 hn1 hn2
    k_steps
    rename Fr _ _ _ _ => F9
    with_unfolding_all refine' For_invVF F9 ?k1 ?k2 ?_
    case k1 => exact rfl
    case k2 => exact rfl
    k_steps
    rename_i l5 _ _ _ _ q5 _ _ _ _ _ _ _ _ _ _ _ _ _ _ _ _ k6 t6 o6 hk61 hk62 hS6 n6 _ _ _ _ _ _ _ _ _ _ _ _ hRange F8 N8 _
    have hls : @LT.lt Nat _ sp l5 := by k_ne
    clear q5
    refine iter_range (n := (3 + k6).toNat) (LawJ sp l5 ((164, tabObj ps9) :: cds9)) rfl hRange (range_small hk61 (Int.lt_of_lt_of_le hk62 hn2)) (range_n hk61 (Int.lt_of_lt_of_le hk62 hn2)) F8 (News.perm (news' := (l5, listOf [].toArray 0) :: (sp, o6) :: ([] ++ (164, tabObj ps9) :: cds9)) N8 (by k_slotset)) (.mk 0 _ o6 [] [] 0 [] rfl rfl rfl hS6 .nil rfl rfl all_nil) ?turn ?done
    case turn =>
      --[T
      clear F8 N8 hRange
      intro I i tI m₁ nw h tk oI _ hi hJ hne F2 N2
      refine hideG fun X9 k9 => ?_
      cases hJ with
      | mk dp td o' vs ss n tl hm1 hm2 hm3 hS' hst hlen hdp hgl =>
      have b1 : @Ne Nat l5 I := hne (l5, _) List.mem_cons_self
      have b2 : @Ne Nat sp I := hne (sp, _) (List.mem_cons_of_mem _ List.mem_cons_self)
      have b3 : @Ne Nat sp l5 := Nat.ne_of_lt hls
      have b4 : ∀ p ∈ tl ++ (164, tabObj ps9) :: cds9, p.1 ≠ I := fun p hp => hne p (List.mem_cons_of_mem _ (List.mem_cons_of_mem _ hp))
      have b5 : ∀ p ∈ tl ++ (164, tabObj ps9) :: cds9, p.1 ≠ sp := law_ne1 hls hgl hsp
      have b6 : ∀ p ∈ tl ++ (164, tabObj ps9) :: cds9, p.1 ≠ l5 := law_ne2 hls hgl hsp
      have hvl : vs.length ≤ 20 := by have := hst.1; omega
      generalize hRd : tl ++ (164, tabObj ps9) :: cds9 = R at N2 b4 b5 b6
      refine k9 ?_
      refine setFN (frSet3 F2 ((if_neg (by decide)).trans hm1) ((if_neg (by decide)).trans hm2) ((if_neg (by decide)).trans hm3)) N2 ?_
      intro m3 n3 F3 N3
      clear F2 N2 k9 hne
      k_steps
      · rename _ ∈ [Value.none, _, _, _, _] => hr
        rename Value.str _ _ ∈ [_, _, _, _, _] => hw
        rename_i D _ _ _ _ lD _ _ _ _ _ FL NL
        rename Spool _ => hS1
        obtain ⟨kd, lb, hleft, hin⟩ := beg5_in hw hr
        exact law_turn FL NL hRd (by k_slotset) b4 b1 b2 (by k_ne) (by k_ne) rfl rfl rfl hS1 hst hlen hdp hgl hin (deepOf_left hleft) (deepA (by omega))
      · rename Value.str _ _ ∈ [_, _] => hw
        rename_i D _ _ _ _ lD _ _ _ _ _ FL NL
        rename Spool _ => hS1
        obtain ⟨kd, hin⟩ := beg2_in hw
        exact law_turn FL NL hRd (by k_slotset) b4 b1 b2 (by k_ne) (by k_ne) rfl rfl rfl hS1 hst hlen hdp hgl hin deepOf_none (deepA (by omega))
      · rename (_ && _) = true => ha
        rename_i D _ _ _ _ lD _ _ _ _ _ FL NL
        rename Spool _ => hS1
        exact law_turn FL NL hRd (by k_slotset) b4 b1 b2 (by k_ne) (by k_ne) rfl rfl rfl hS1 hst hlen hdp hgl (.fin List.mem_cons_self) (deepOf_fin (and_deep ha)) (deepB ha)
      · rename _ ∈ [Value.none, _, _, _, _] => hr
        rename Value.str _ _ ∈ [_, _, _] => hw
        rename (_ && _) = false => ha
        rename ¬ _ < (4 : Int) => h4
        rename _ ≠ (4 : Int) => h5
        rename_i D _ _ _ _ lD _ _ _ _ _ FL NL
        rename Spool _ => hS1
        obtain ⟨bk, lb, hin⟩ := lead_in hw hr
        exact law_turn FL NL hRd (by k_slotset) b4 b1 b2 (by k_ne) (by k_ne) rfl rfl rfl hS1 hst hlen hdp hgl hin deepOf_lead (deepC h4 h5 ha)
      --]T
    case done =>
      --[D
      intro m₁ nw h tk hJ F2 N2
      refine hideG fun X9 k9 => ?_
      cases hJ with
      | mk dp td o' vs ss n tl hm1 hm2 hm3 hS' hst hlen hdp hgl =>
      have hss : ss ≠ [] := by
        rintro rfl
        simp only [List.length_nil] at hlen
        omega
      have hnn : ss.length ≤ 20 := by omega
      have l164 : @LT.lt Nat _ 164 sp := hsp (164, tabObj ps9) List.mem_cons_self
      have hup : ∀ p ∈ (l5, listOf vs.toArray n) :: (sp, o') :: (tl ++ cds9), @LT.lt Nat _ 164 p.1 := law_up l164 hls hgl hgt
      refine k9 ?_
      refine setFN (frSet2 F2 hm1 hm2) N2 ?_
      intro m3 n3 F3 N3
      clear F2 N2 k9
      k_steps
      refine ConS.use B1 X1 T1 C1.2 rfl (by decide) (by decide) (by k_asm) (News.perm (news' := (164, tabObj ps9) :: (l5, listOf vs.toArray n) :: (sp, o') :: (tl ++ cds9)) N3 (by k_slotset)) (steps_right w l5 vs ss n ps9 cds9 _ List.mem_cons_self (hst.mono fun p hp => by k_slotget) (deepOf_fine ss 0 dp hdp) hnn hss hup (fun p hp => by k_slotget) TT9) ?_
      intro r n2 hR
      refine hideG fun X9 k9 => ?_
      obtain ⟨rfl, ps8, cds8, hsub, TT8, hgt8⟩ := hR
      refine k9 ?_
      clear k9
      intro n9 h9 tk9 F N
      refine setFN F (News.perm (news' := (sp, o') :: [(164, tabObj ps8)]) N fun p hp => hsub p (law_two p hp)) ?_
      intro m9 n9 F9 N9
      clear F N hsub
      k_steps
      refine Con.use B1 X1 T1 rfl (by decide) (by decide) (by k_asm) (by k_asm) (panics hS' (all_cons (Nat.ne_of_lt l164) all_nil)) ?_
      intro n9 hsu n8 h9 tk9 F N
      k_steps
      exact hq _ _ ⟨_, ps8, by assumption, N.perm hsu⟩
      --]D

end
end Mine
set_option maxRecDepth 100000 in
theorem PySem.Challenge.cw_xw0043_01_holds : PySem.Challenge.rw_xw0043_01.Holds := by
  exact Mine.law_holds

