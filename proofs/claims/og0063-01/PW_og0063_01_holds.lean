import PyProof.Rows.All
import Wide.All
import OpenK.AllK
import Wide.FinOn
import PySem.Challenge.RW_og0063_01
open PySem PySem.W PyProof.Rows PySem.Calls PySem.Spec
set_option Elab.async false
/- part OgTop -/
namespace Og
theorem two_of {p : Prop} (h : p) (_ : True) : p := h
-- the written part alone: the head's other steps are left out here
section
local macro_rules | `(tactic| o_head $_) => `(tactic| refine two_of ?walk ?hw)
local macro_rules | `(tactic| w_witness2) => `(tactic| exact True.intro)
open_top hdk for PySem.Challenge.rw_og0063_01
end
/-- an entry of a names table -/
noncomputable def en (P : Params) (l : List Nat) (n : Nat) (v : Value) : DictEntry := { hash := PyData.keyHash P ⟨⟨l⟩⟩, key := .str ⟨⟨l⟩⟩ n, val := v }
/-- the names of the builtins, as the start lays them -/
noncomputable def obN0 (P : Params) : List DictEntry := [en P [95, 95, 110, 97, 109, 101, 95, 95] 1 (.str ⟨⟨[98, 117, 105, 108, 116, 105, 110, 115]⟩⟩ 160),
  en P [95, 95, 100, 111, 99, 95, 95] 2 (.builtin "builtins.__doc__:str#opaque"),
  en P [95, 95, 112, 97, 99, 107, 97, 103, 101, 95, 95] 3 (.builtin "builtins.__package__:str#opaque"),
  en P [95, 95, 108, 111, 97, 100, 101, 114, 95, 95] 4 (.builtin "builtins.__loader__:shared#opaque"),
  en P [95, 95, 115, 112, 101, 99, 95, 95] 5 (.builtin "builtins.__spec__#opaque"),
  en P [95, 95, 98, 117, 105, 108, 100, 95, 99, 108, 97, 115, 115, 95, 95] 6 (.builtin "__build_class__"),
  en P [95, 95, 105, 109, 112, 111, 114, 116, 95, 95] 7 (.builtin "__import__"),
  en P [97, 98, 115] 8 (.builtin "abs"),
  en P [97, 108, 108] 9 (.builtin "all"),
  en P [97, 110, 121] 10 (.builtin "any"),
  en P [97, 115, 99, 105, 105] 11 (.builtin "ascii"),
  en P [98, 105, 110] 12 (.builtin "bin"),
  en P [98, 114, 101, 97, 107, 112, 111, 105, 110, 116] 13 (.builtin "breakpoint"),
  en P [99, 97, 108, 108, 97, 98, 108, 101] 14 (.builtin "callable"),
  en P [99, 104, 114] 15 (.builtin "chr"),
  en P [99, 111, 109, 112, 105, 108, 101] 16 (.builtin "compile")]
noncomputable def obN1 (P : Params) : List DictEntry := [en P [100, 101, 108, 97, 116, 116, 114] 17 (.builtin "delattr"),
  en P [100, 105, 114] 18 (.builtin "dir"),
  en P [100, 105, 118, 109, 111, 100] 19 (.builtin "divmod"),
  en P [101, 118, 97, 108] 20 (.builtin "eval"),
  en P [101, 120, 101, 99] 21 (.builtin "exec"),
  en P [102, 111, 114, 109, 97, 116] 22 (.builtin "format"),
  en P [103, 101, 116, 97, 116, 116, 114] 23 (.builtin "getattr"),
  en P [103, 108, 111, 98, 97, 108, 115] 24 (.builtin "globals"),
  en P [104, 97, 115, 97, 116, 116, 114] 25 (.builtin "hasattr"),
  en P [104, 97, 115, 104] 26 (.builtin "hash"),
  en P [104, 101, 120] 27 (.builtin "hex"),
  en P [105, 100] 28 (.builtin "id"),
  en P [105, 110, 112, 117, 116] 29 (.builtin "input"),
  en P [105, 115, 105, 110, 115, 116, 97, 110, 99, 101] 30 (.builtin "isinstance"),
  en P [105, 115, 115, 117, 98, 99, 108, 97, 115, 115] 31 (.builtin "issubclass"),
  en P [105, 116, 101, 114] 32 (.builtin "iter")]
noncomputable def obN2 (P : Params) : List DictEntry := [en P [97, 105, 116, 101, 114] 33 (.builtin "aiter"),
  en P [108, 101, 110] 34 (.builtin "len"),
  en P [108, 111, 99, 97, 108, 115] 35 (.builtin "locals"),
  en P [109, 97, 120] 36 (.builtin "max"),
  en P [109, 105, 110] 37 (.builtin "min"),
  en P [110, 101, 120, 116] 38 (.builtin "next"),
  en P [97, 110, 101, 120, 116] 39 (.builtin "anext"),
  en P [111, 99, 116] 40 (.builtin "oct"),
  en P [111, 114, 100] 41 (.builtin "ord"),
  en P [112, 111, 119] 42 (.builtin "pow"),
  en P [112, 114, 105, 110, 116] 43 (.builtin "print"),
  en P [114, 101, 112, 114] 44 (.builtin "repr"),
  en P [114, 111, 117, 110, 100] 45 (.builtin "round"),
  en P [115, 101, 116, 97, 116, 116, 114] 46 (.builtin "setattr"),
  en P [115, 111, 114, 116, 101, 100] 47 (.builtin "sorted"),
  en P [115, 117, 109] 48 (.builtin "sum")]
noncomputable def obN3 (P : Params) : List DictEntry := [en P [118, 97, 114, 115] 49 (.builtin "vars"),
  en P [78, 111, 110, 101] 50 (.none),
  en P [69, 108, 108, 105, 112, 115, 105, 115] 51 (.ellipsis),
  en P [78, 111, 116, 73, 109, 112, 108, 101, 109, 101, 110, 116, 101, 100] 52 (.notImplemented),
  en P [70, 97, 108, 115, 101] 53 (.bool false),
  en P [84, 114, 117, 101] 54 (.bool true),
  en P [98, 111, 111, 108] 55 (.type "bool"),
  en P [109, 101, 109, 111, 114, 121, 118, 105, 101, 119] 56 (.type "memoryview"),
  en P [98, 121, 116, 101, 97, 114, 114, 97, 121] 57 (.type "bytearray"),
  en P [98, 121, 116, 101, 115] 58 (.type "bytes"),
  en P [99, 108, 97, 115, 115, 109, 101, 116, 104, 111, 100] 59 (.type "classmethod"),
  en P [99, 111, 109, 112, 108, 101, 120] 60 (.type "complex"),
  en P [100, 105, 99, 116] 61 (.type "dict"),
  en P [101, 110, 117, 109, 101, 114, 97, 116, 101] 62 (.type "enumerate"),
  en P [102, 105, 108, 116, 101, 114] 63 (.type "filter"),
  en P [102, 108, 111, 97, 116] 64 (.type "float")]
noncomputable def obN4 (P : Params) : List DictEntry := [en P [102, 114, 111, 122, 101, 110, 115, 101, 116] 65 (.type "frozenset"),
  en P [112, 114, 111, 112, 101, 114, 116, 121] 66 (.type "property"),
  en P [105, 110, 116] 67 (.type "int"),
  en P [108, 105, 115, 116] 68 (.type "list"),
  en P [109, 97, 112] 69 (.type "map"),
  en P [111, 98, 106, 101, 99, 116] 70 (.type "object"),
  en P [114, 97, 110, 103, 101] 71 (.type "range"),
  en P [114, 101, 118, 101, 114, 115, 101, 100] 72 (.type "reversed"),
  en P [115, 101, 116] 73 (.type "set"),
  en P [115, 108, 105, 99, 101] 74 (.type "slice"),
  en P [115, 116, 97, 116, 105, 99, 109, 101, 116, 104, 111, 100] 75 (.type "staticmethod"),
  en P [115, 116, 114] 76 (.type "str"),
  en P [115, 117, 112, 101, 114] 77 (.type "super"),
  en P [116, 117, 112, 108, 101] 78 (.type "tuple"),
  en P [116, 121, 112, 101] 79 (.type "type"),
  en P [122, 105, 112] 80 (.type "zip")]
noncomputable def obN5 (P : Params) : List DictEntry := [en P [95, 95, 100, 101, 98, 117, 103, 95, 95] 81 (.bool true),
  en P [66, 97, 115, 101, 69, 120, 99, 101, 112, 116, 105, 111, 110] 82 (.type "BaseException"),
  en P [66, 97, 115, 101, 69, 120, 99, 101, 112, 116, 105, 111, 110, 71, 114, 111, 117, 112] 83 (.type "BaseExceptionGroup"),
  en P [69, 120, 99, 101, 112, 116, 105, 111, 110] 84 (.type "Exception"),
  en P [71, 101, 110, 101, 114, 97, 116, 111, 114, 69, 120, 105, 116] 85 (.type "GeneratorExit"),
  en P [75, 101, 121, 98, 111, 97, 114, 100, 73, 110, 116, 101, 114, 114, 117, 112, 116] 86 (.type "KeyboardInterrupt"),
  en P [83, 121, 115, 116, 101, 109, 69, 120, 105, 116] 87 (.type "SystemExit"),
  en P [65, 114, 105, 116, 104, 109, 101, 116, 105, 99, 69, 114, 114, 111, 114] 88 (.type "ArithmeticError"),
  en P [65, 115, 115, 101, 114, 116, 105, 111, 110, 69, 114, 114, 111, 114] 89 (.type "AssertionError"),
  en P [65, 116, 116, 114, 105, 98, 117, 116, 101, 69, 114, 114, 111, 114] 90 (.type "AttributeError"),
  en P [66, 117, 102, 102, 101, 114, 69, 114, 114, 111, 114] 91 (.type "BufferError"),
  en P [69, 79, 70, 69, 114, 114, 111, 114] 92 (.type "EOFError"),
  en P [73, 109, 112, 111, 114, 116, 69, 114, 114, 111, 114] 93 (.type "ImportError"),
  en P [76, 111, 111, 107, 117, 112, 69, 114, 114, 111, 114] 94 (.type "LookupError"),
  en P [77, 101, 109, 111, 114, 121, 69, 114, 114, 111, 114] 95 (.type "MemoryError"),
  en P [78, 97, 109, 101, 69, 114, 114, 111, 114] 96 (.type "NameError")]
noncomputable def obN6 (P : Params) : List DictEntry := [en P [79, 83, 69, 114, 114, 111, 114] 97 (.type "OSError"),
  en P [82, 101, 102, 101, 114, 101, 110, 99, 101, 69, 114, 114, 111, 114] 98 (.type "ReferenceError"),
  en P [82, 117, 110, 116, 105, 109, 101, 69, 114, 114, 111, 114] 99 (.type "RuntimeError"),
  en P [83, 116, 111, 112, 65, 115, 121, 110, 99, 73, 116, 101, 114, 97, 116, 105, 111, 110] 100 (.type "StopAsyncIteration"),
  en P [83, 116, 111, 112, 73, 116, 101, 114, 97, 116, 105, 111, 110] 101 (.type "StopIteration"),
  en P [83, 121, 110, 116, 97, 120, 69, 114, 114, 111, 114] 102 (.type "SyntaxError"),
  en P [83, 121, 115, 116, 101, 109, 69, 114, 114, 111, 114] 103 (.type "SystemError"),
  en P [84, 121, 112, 101, 69, 114, 114, 111, 114] 104 (.type "TypeError"),
  en P [86, 97, 108, 117, 101, 69, 114, 114, 111, 114] 105 (.type "ValueError"),
  en P [87, 97, 114, 110, 105, 110, 103] 106 (.type "Warning"),
  en P [70, 108, 111, 97, 116, 105, 110, 103, 80, 111, 105, 110, 116, 69, 114, 114, 111, 114] 107 (.type "FloatingPointError"),
  en P [79, 118, 101, 114, 102, 108, 111, 119, 69, 114, 114, 111, 114] 108 (.type "OverflowError"),
  en P [90, 101, 114, 111, 68, 105, 118, 105, 115, 105, 111, 110, 69, 114, 114, 111, 114] 109 (.type "ZeroDivisionError"),
  en P [66, 121, 116, 101, 115, 87, 97, 114, 110, 105, 110, 103] 110 (.type "BytesWarning"),
  en P [68, 101, 112, 114, 101, 99, 97, 116, 105, 111, 110, 87, 97, 114, 110, 105, 110, 103] 111 (.type "DeprecationWarning"),
  en P [69, 110, 99, 111, 100, 105, 110, 103, 87, 97, 114, 110, 105, 110, 103] 112 (.type "EncodingWarning")]
noncomputable def obN7 (P : Params) : List DictEntry := [en P [70, 117, 116, 117, 114, 101, 87, 97, 114, 110, 105, 110, 103] 113 (.type "FutureWarning"),
  en P [73, 109, 112, 111, 114, 116, 87, 97, 114, 110, 105, 110, 103] 114 (.type "ImportWarning"),
  en P [80, 101, 110, 100, 105, 110, 103, 68, 101, 112, 114, 101, 99, 97, 116, 105, 111, 110, 87, 97, 114, 110, 105, 110, 103] 115 (.type "PendingDeprecationWarning"),
  en P [82, 101, 115, 111, 117, 114, 99, 101, 87, 97, 114, 110, 105, 110, 103] 116 (.type "ResourceWarning"),
  en P [82, 117, 110, 116, 105, 109, 101, 87, 97, 114, 110, 105, 110, 103] 117 (.type "RuntimeWarning"),
  en P [83, 121, 110, 116, 97, 120, 87, 97, 114, 110, 105, 110, 103] 118 (.type "SyntaxWarning"),
  en P [85, 110, 105, 99, 111, 100, 101, 87, 97, 114, 110, 105, 110, 103] 119 (.type "UnicodeWarning"),
  en P [85, 115, 101, 114, 87, 97, 114, 110, 105, 110, 103] 120 (.type "UserWarning"),
  en P [66, 108, 111, 99, 107, 105, 110, 103, 73, 79, 69, 114, 114, 111, 114] 121 (.type "BlockingIOError"),
  en P [67, 104, 105, 108, 100, 80, 114, 111, 99, 101, 115, 115, 69, 114, 114, 111, 114] 122 (.type "ChildProcessError"),
  en P [67, 111, 110, 110, 101, 99, 116, 105, 111, 110, 69, 114, 114, 111, 114] 123 (.type "ConnectionError"),
  en P [70, 105, 108, 101, 69, 120, 105, 115, 116, 115, 69, 114, 114, 111, 114] 124 (.type "FileExistsError"),
  en P [70, 105, 108, 101, 78, 111, 116, 70, 111, 117, 110, 100, 69, 114, 114, 111, 114] 125 (.type "FileNotFoundError"),
  en P [73, 110, 116, 101, 114, 114, 117, 112, 116, 101, 100, 69, 114, 114, 111, 114] 126 (.type "InterruptedError"),
  en P [73, 115, 65, 68, 105, 114, 101, 99, 116, 111, 114, 121, 69, 114, 114, 111, 114] 127 (.type "IsADirectoryError"),
  en P [78, 111, 116, 65, 68, 105, 114, 101, 99, 116, 111, 114, 121, 69, 114, 114, 111, 114] 128 (.type "NotADirectoryError")]
noncomputable def obN8 (P : Params) : List DictEntry := [en P [80, 101, 114, 109, 105, 115, 115, 105, 111, 110, 69, 114, 114, 111, 114] 129 (.type "PermissionError"),
  en P [80, 114, 111, 99, 101, 115, 115, 76, 111, 111, 107, 117, 112, 69, 114, 114, 111, 114] 130 (.type "ProcessLookupError"),
  en P [84, 105, 109, 101, 111, 117, 116, 69, 114, 114, 111, 114] 131 (.type "TimeoutError"),
  en P [73, 110, 100, 101, 110, 116, 97, 116, 105, 111, 110, 69, 114, 114, 111, 114] 132 (.type "IndentationError"),
  en P [95, 73, 110, 99, 111, 109, 112, 108, 101, 116, 101, 73, 110, 112, 117, 116, 69, 114, 114, 111, 114] 133 (.type "_IncompleteInputError"),
  en P [73, 110, 100, 101, 120, 69, 114, 114, 111, 114] 134 (.type "IndexError"),
  en P [75, 101, 121, 69, 114, 114, 111, 114] 135 (.type "KeyError"),
  en P [77, 111, 100, 117, 108, 101, 78, 111, 116, 70, 111, 117, 110, 100, 69, 114, 114, 111, 114] 136 (.type "ModuleNotFoundError"),
  en P [78, 111, 116, 73, 109, 112, 108, 101, 109, 101, 110, 116, 101, 100, 69, 114, 114, 111, 114] 137 (.type "NotImplementedError"),
  en P [80, 121, 116, 104, 111, 110, 70, 105, 110, 97, 108, 105, 122, 97, 116, 105, 111, 110, 69, 114, 114, 111, 114] 138 (.type "PythonFinalizationError"),
  en P [82, 101, 99, 117, 114, 115, 105, 111, 110, 69, 114, 114, 111, 114] 139 (.type "RecursionError"),
  en P [85, 110, 98, 111, 117, 110, 100, 76, 111, 99, 97, 108, 69, 114, 114, 111, 114] 140 (.type "UnboundLocalError"),
  en P [85, 110, 105, 99, 111, 100, 101, 69, 114, 114, 111, 114] 141 (.type "UnicodeError"),
  en P [66, 114, 111, 107, 101, 110, 80, 105, 112, 101, 69, 114, 114, 111, 114] 142 (.type "BrokenPipeError"),
  en P [67, 111, 110, 110, 101, 99, 116, 105, 111, 110, 65, 98, 111, 114, 116, 101, 100, 69, 114, 114, 111, 114] 143 (.type "ConnectionAbortedError"),
  en P [67, 111, 110, 110, 101, 99, 116, 105, 111, 110, 82, 101, 102, 117, 115, 101, 100, 69, 114, 114, 111, 114] 144 (.type "ConnectionRefusedError")]
noncomputable def obN9 (P : Params) : List DictEntry := [en P [67, 111, 110, 110, 101, 99, 116, 105, 111, 110, 82, 101, 115, 101, 116, 69, 114, 114, 111, 114] 145 (.type "ConnectionResetError"),
  en P [84, 97, 98, 69, 114, 114, 111, 114] 146 (.type "TabError"),
  en P [85, 110, 105, 99, 111, 100, 101, 68, 101, 99, 111, 100, 101, 69, 114, 114, 111, 114] 147 (.type "UnicodeDecodeError"),
  en P [85, 110, 105, 99, 111, 100, 101, 69, 110, 99, 111, 100, 101, 69, 114, 114, 111, 114] 148 (.type "UnicodeEncodeError"),
  en P [85, 110, 105, 99, 111, 100, 101, 84, 114, 97, 110, 115, 108, 97, 116, 101, 69, 114, 114, 111, 114] 149 (.type "UnicodeTranslateError"),
  en P [69, 120, 99, 101, 112, 116, 105, 111, 110, 71, 114, 111, 117, 112] 150 (.type "ExceptionGroup"),
  en P [69, 110, 118, 105, 114, 111, 110, 109, 101, 110, 116, 69, 114, 114, 111, 114] 151 (.type "OSError"),
  en P [73, 79, 69, 114, 114, 111, 114] 152 (.type "OSError"),
  en P [111, 112, 101, 110] 153 (.builtin "open"),
  en P [113, 117, 105, 116] 154 (.builtin "builtins.quit#opaque"),
  en P [101, 120, 105, 116] 155 (.builtin "builtins.exit#opaque"),
  en P [99, 111, 112, 121, 114, 105, 103, 104, 116] 156 (.builtin "builtins.copyright#opaque"),
  en P [99, 114, 101, 100, 105, 116, 115] 157 (.builtin "builtins.credits#opaque"),
  en P [108, 105, 99, 101, 110, 115, 101] 158 (.builtin "builtins.license#opaque"),
  en P [104, 101, 108, 112] 159 (.builtin "builtins.help#opaque")]
noncomputable def ob0 (P : Params) : Obj := { cls := .type "dict", data := .dict ⟨obN0 P ++ (obN1 P ++ (obN2 P ++ (obN3 P ++ (obN4 P ++ (obN5 P ++ (obN6 P ++ (obN7 P ++ (obN8 P ++ (obN9 P)))))))))⟩ 159 }
set_option maxRecDepth 100000 in
set_option maxHeartbeats 8000000 in
noncomputable def KX : Params → Frag := fun P =>
  letI l : List (Nat × Obj) := _
  haveI h : l = (nat_lit 0, ob0 P) :: hdk.heap_39 P := by
    delta hdk.heap_39
    exact rfl
  l
noncomputable def asK : List Nat := [0, 2, 3, 6, 15, 17, 18, 20, 21, 22, 29, 30, 31, 33, 34, 36, 37, 38, 40, 41, 43, 44, 45, 46, 47, 48, 51, 58, 59, 60, 63, 64, 66, 67, 69, 70, 71, 73, 74, 76, 77, 78, 80, 81, 83, 84, 85, 87, 88, 90, 91, 92, 94, 95, 97, 98, 99, 101, 102, 104, 105, 106, 108, 109, 111, 112, 113, 115, 116, 118, 119, 120, 123, 124, 125, 127, 128, 130, 131, 132, 134, 135, 137, 138, 139, 141, 142, 144, 145]
local macro_rules | `(tactic| k_head) => `(tactic| o_head (kHook KX asK (fun _ => by kernel_rfl)))
set_option maxRecDepth 100000 in
set_option maxHeartbeats 8000000 in
open_top hd for PySem.Challenge.rw_og0063_01
end Og
/- part OgBase -/
namespace Og
noncomputable abbrev lo₀ : List Str := looseW Og.hd.view_39 [Str.ofString "LedgerError", Str.ofString "decimal"]
noncomputable abbrev RetI (h₀ : Heap) (L : Addr) (m : Str → Option Value) (news : List (Addr × Obj)) (s : Shared) (Q : Value → Shared → Prop) (x : Int) : Prop :=
  ∀ (t : Tok) (h' : Heap) (tk' : Nat), Fr h₀ L h' m → News h₀ L h' news → Q (.int x t) { s with heap := h', toks := tk' }
noncomputable abbrev RetS (h₀ : Heap) (L : Addr) (m : Str → Option Value) (news : List (Addr × Obj)) (s : Shared) (Q : Value → Shared → Prop) (x : Str) : Prop :=
  ∀ (t : Tok) (h' : Heap) (tk' : Nat), Fr h₀ L h' m → News h₀ L h' news → Q (.str x t) { s with heap := h', toks := tk' }
noncomputable abbrev RetB (h₀ : Heap) (L : Addr) (m : Str → Option Value) (news : List (Addr × Obj)) (s : Shared) (Q : Value → Shared → Prop) (x : Bool) : Prop :=
  ∀ (h' : Heap) (tk' : Nat), Fr h₀ L h' m → News h₀ L h' news → Q (.bool x) { s with heap := h', toks := tk' }
noncomputable abbrev RetP (h₀ : Heap) (L : Addr) (m : Str → Option Value) (news : List (Addr × Obj)) (s : Shared) (Q : Value → Shared → Prop) (x y : Int) : Prop :=
  ∀ (D : Addr) (t u : Tok) (c : Nat) (h' : Heap) (tk' : Nat), Fr h₀ L h' m → News h₀ L h' ((D, ({ cls := .type "tuple", data := .seq #[.int x t, .int y u] c } : Obj)) :: news) → (∀ p ∈ news, p.1 < D) → Q (.ref D) { s with heap := h', toks := tk' }
/-- what a call of a def of the text does, wherever it stands -/
noncomputable def Con (w : World) (sz : Nat) (f : Addr) (vs : List Value) (Post : Heap → Addr → (Str → Option Value) → List (Addr × Obj) → Shared → (Value → Shared → Prop) → Prop) : Prop :=
  ∀ (prog : Program) (mean : ExcName → Option Value) (mg mb : Str → Option Value) (dp un : Nat) (gd : Option (List Code)) (cn : Str) (cs : Scope) (a : Addr) (ccd : Value) (cl : List (Str × Addr)) (outer : List Env) (A₀ : Around) (base h₀ : Heap) (L : Addr) (m : Str → Option Value) (news : List (Addr × Obj)) (s : Shared) (Q E : Value → Shared → Prop),
    Below A₀ base outer h₀ → Fr h₀ L s.heap m → (Og.KX w.params).In h₀ → News h₀ L s.heap news → Top Og.hd.view_39 lo₀ mean mg mb h₀ → cs.kind = .function → dp + sz < recursionLimit → un + 200 * sz < cLine →
    Post h₀ L m news s Q →
      wpAny (model prog w) (ktrTop dp un gd cn cs L a ccd cl outer) (call (.ref f) vs) Q E s
theorem retP_end {h₀ h' : Heap} {L D : Addr} {m : Str → Option Value} {news : List (Addr × Obj)} {s : Shared} {Q : Value → Shared → Prop} {x y x' y' : Int} {t u : Tok} {c : Nat} {tk' : Nat} (hret : RetP h₀ L m news s Q x y) (F : Fr h₀ L h' m)
    (N : News h₀ L h' ((D, ({ cls := .type "tuple", data := .seq #[.int x' t, .int y' u] c } : Obj)) :: news)) (hl : ∀ p ∈ news, p.1 < D) (e1 : x' = x) (e2 : y' = y) : Q (.ref D) { s with heap := h', toks := tk' } := by
  subst e1; subst e2
  exact hret D t u c h' tk' F N hl
theorem fill : Og.KX = Og.KX ∧ PySem.Challenge.rw_og0063_01 = PySem.Challenge.rw_og0063_01 := by w_on; k_fill; exact ⟨rfl, rfl⟩
/-- the worth of a text of figures, its codes given -/
noncomputable def val : List Int → Int := fun l => l.foldl (fun n c => n * 10 + (c - 48)) 0
noncomputable def Figs (l : List Int) : Prop := ∀ c ∈ l, 48 ≤ c ∧ c ≤ 57
theorem val_snoc (l : List Int) (c : Int) : val (l ++ [c]) = val l * 10 + (c - 48) := by simp [val, List.foldl_append]
end Og
/- part OgW -/
namespace Og
local macro_rules | `(tactic| walk_at "og idle") => `(tactic| done)
theorem find_fig {n : Nat} (h : 48 ≤ n ∧ n ≤ 57) : Txt.find (Str.ofString "0123456789") ⟨#[n]⟩ = (n : Int) - 48 := by
  obtain ⟨k, rfl⟩ : ∃ k, n = 48 + k := ⟨n - 48, by omega⟩
  have z : ∀ k, k < 10 → Txt.find (Str.ofString "0123456789") ⟨#[48 + k]⟩ = (k : Int) := by decide +kernel
  rw [z k (by omega)]
  omega
theorem figs_mid {l pre post : List Int} {n : Nat} (h : Figs l) (e : l = pre ++ (n : Int) :: post) : 48 ≤ n ∧ n ≤ 57 := by
  have := h n (by rw [e]; simp)
  omega
set_option maxRecDepth 100000 in
set_option maxHeartbeats 8000000 in
theorem c_worth (w : World) (x : Str) (tx : Tok) (hx : Figs (KStt.codes x)) (hl : x.length ≤ 200) : Con w 1 77 [.str x tx] (fun h₀ L m news s Q => RetI h₀ L m news s Q (val (KStt.codes x))) := by
  unfold Con
  intro prog mean mg mb dp un gd cn cs a ccd cl outer A₀ base h₀ L m news s Q E B F X N T hk hd hu hret
  (k_with "pyIter str" => k_state (fun pre n => n = val pre) "number")
  (k_with "state" => (first | rfl | (rw [Og.val_snoc, Og.find_fig (Og.figs_mid hx kEq)]; omega)))
  refine wpAny_call ?_
  k_dflt ktr_enter
  k_steps
  all_goals first
    | (exfalso; (rename Txt.find _ _ = -1 => hfi); (rw [Og.find_fig (Og.figs_mid hx kEq)] at hfi); (have := Og.figs_mid hx kEq); omega)
    | cb_end hret
end Og
/- part OgD -/
namespace Og
theorem rowsD : True := by
  k_with_none
  (k_with "og enter" => (k_dflt ((refine code_def (by k_asm) (by k_asm) (by k_asm) (by k_asm) (by k_asm) (by exact rfl) (by exact rfl) (by assumption) (by k_is) (by k_is) (by ktr_room) (by first | exact BindsTo.of_eq rfl | exact binds_K (by k_in) rfl (by k_is) rfl rfl rfl) (by exact locs rfl) ?_ (by exact rfl) (by exact rfl) (by exact rfl) (by decide)); k_whole; intro g' L' h' FG' F' N' B' X' T'; (try dsimp only); (try k_lift B'); (try k_fold))))
  exact True.intro
noncomputable def nrm : Int → Nat → Int × Int
  | u, 0 => (u, 0)
  | u, s + 1 => if u % 10 = 0 then nrm (u / 10) s else (u, (s : Int) + 1)
noncomputable def dec (u s : Int) : Int × Int := if s < 0 then (u * 10 ^ (-s).toNat, 0) else nrm u s.toNat
theorem nrm_step {u s : Int} (h : 0 < s) (hm : u.fmod 10 = 0) : nrm (u.fdiv 10) (s - 1).toNat = nrm u s.toNat := by
  obtain ⟨n, rfl⟩ : ∃ n : Nat, s = (n : Int) + 1 := ⟨(s - 1).toNat, by omega⟩
  have e1 : ((n : Int) + 1 - 1).toNat = n := by omega
  have e2 : ((n : Int) + 1).toNat = n + 1 := by omega
  rw [Int.fmod_eq_emod_of_nonneg _ (by decide)] at hm
  rw [e1, e2, nrm, if_pos hm, Int.fdiv_eq_ediv_of_nonneg _ (by decide)]
theorem nrm_stop {u s : Int} (h : 0 < s) (hm : u.fmod 10 ≠ 0) : nrm u s.toNat = (u, s) := by
  obtain ⟨n, rfl⟩ : ∃ n : Nat, s = (n : Int) + 1 := ⟨(s - 1).toNat, by omega⟩
  have e2 : ((n : Int) + 1).toNat = n + 1 := by omega
  rw [Int.fmod_eq_emod_of_nonneg _ (by decide)] at hm
  rw [e2, nrm, if_neg hm]
theorem nrm_zero {u s : Int} (h0 : 0 ≤ s) (h : ¬ 0 < s) : nrm u s.toNat = (u, s) := by
  obtain rfl : s = 0 := by omega
  rfl
theorem dec_pos {x y u s : Int} (hy : 0 ≤ y) (h : nrm u s.toNat = nrm x y.toNat) (e : nrm u s.toNat = (u, s)) : u = (dec x y).1 ∧ s = (dec x y).2 := by
  have : dec x y = (u, s) := by rw [dec, if_neg (by omega), ← h, e]
  rw [this]; exact ⟨rfl, rfl⟩
set_option maxRecDepth 100000 in
set_option maxHeartbeats 8000000 in
theorem c_dec0 (w : World) (x y : Int) (tx ty : Tok) (hy : 0 ≤ y ∧ y ≤ 100) : Con w 1 70 [.int x tx, .int y ty] (fun h₀ L m news s Q => RetP h₀ L m news s Q (dec x y).1 (dec x y).2) := by
  unfold Con
  intro prog mean mg mb dp un gd cn cs a ccd cl outer A₀ base h₀ L m news s Q E B F X N T hk hd hu hret
  (k_with "exec While BoolOp cons nil" => k_while (fun _ u s => 0 ≤ s ∧ s ≤ 100 ∧ nrm u s.toNat = nrm x y.toNat) (fun _ u s => s.toNat) "units" "scale")
  (k_with "state" => (first | exact ⟨hy.1, hy.2, rfl⟩ | exact ⟨by omega, by omega, (Og.nrm_step (by assumption) (by assumption)).trans (by assumption)⟩))
  refine wpAny_call ?_
  k_extra "og enter"
  k_steps
  · have hq := dec_pos hy.1 (by assumption) (nrm_stop (by assumption) (by assumption))
    exact retP_end hret (by assumption) (by assumption) (by assumption) hq.1 hq.2
  · have hq := dec_pos hy.1 (by assumption) (nrm_zero (by assumption) (by omega))
    exact retP_end hret (by assumption) (by assumption) (by assumption) hq.1 hq.2
end Og
/- part OgD2 -/
namespace Og
local macro_rules | `(tactic| walk_at "og idle") => `(tactic| done)
theorem rowsD2 : True := by
  k_with_none
  (k_with "og enter" => (k_dflt ((refine code_def (by k_asm) (by k_asm) (by k_asm) (by k_asm) (by k_asm) (by exact rfl) (by exact rfl) (by assumption) (by k_is) (by k_is) (by ktr_room) (by first | exact BindsTo.of_eq rfl | exact binds_K (by k_in) rfl (by k_is) rfl rfl rfl) (by exact locs rfl) ?_ (by exact rfl) (by exact rfl) (by exact rfl) (by decide)); k_whole; intro g' L' h' FG' F' N' B' X' T'; (try dsimp only); (try k_lift B'); (try k_fold))))
  exact True.intro
set_option maxRecDepth 100000 in
set_option maxHeartbeats 8000000 in
theorem c_plain (w : World) (x y : Int) (tx ty : Tok) (hy : 0 ≤ y ∧ y ≤ 100) : Con w 1 105 [.int x tx, .int y ty] (fun h₀ L m news s Q => RetP h₀ L m news s Q (dec x y).1 (dec x y).2) := by
  unfold Con
  intro prog mean mg mb dp un gd cn cs a ccd cl outer A₀ base h₀ L m news s Q E B F X N T hk hd hu hret
  (k_with "exec While BoolOp cons nil" => k_while (fun _ u s => 0 ≤ s ∧ s ≤ 100 ∧ nrm u s.toNat = nrm x y.toNat) (fun _ u s => s.toNat) "units" "scale")
  (k_with "state" => (first | exact ⟨hy.1, hy.2, rfl⟩ | exact ⟨by omega, by omega, (Og.nrm_step (by assumption) (by assumption)).trans (by assumption)⟩))
  refine wpAny_call ?_
  k_extra "og enter"
  k_steps
  · have hq := dec_pos hy.1 (by assumption) (nrm_stop (by assumption) (by assumption))
    exact retP_end hret (by assumption) (by assumption) (by assumption) hq.1 hq.2
  · have hq := dec_pos hy.1 (by assumption) (nrm_zero (by assumption) (by omega))
    exact retP_end hret (by assumption) (by assumption) (by assumption) hq.1 hq.2

theorem pow_small {y : Int} (hy : -5 ≤ y ∧ y < 0) : 1 ≤ (10 : Int) ^ (-y).toNat ∧ (10 : Int) ^ (-y).toNat ≤ 100000 := by
  have : y = -1 ∨ y = -2 ∨ y = -3 ∨ y = -4 ∨ y = -5 := by omega
  rcases this with h | h | h | h | h <;> subst h <;> decide
theorem mul_small {x y : Int} (hy : -5 ≤ y ∧ y < 0) : IntMulOk x ((10 : Int) ^ (-y).toNat) := by
  have := pow_small hy
  exact IntMulOk.of_right (intBits_le_64 (by omega) (by omega))
theorem dec_neg {x y : Int} (hy : y < 0) : dec x y = (x * 10 ^ (-y).toNat, 0) := by rw [dec, if_pos hy]
local macro_rules | `(tactic| mul_fits) => `(tactic| exact mul_small (by assumption))
set_option maxRecDepth 100000 in
set_option maxHeartbeats 8000000 in
theorem c_decN (w : World) (x y : Int) (tx ty : Tok) (hy : -5 ≤ y ∧ y < 0) : Con w 1 70 [.int x tx, .int y ty] (fun h₀ L m news s Q => RetP h₀ L m news s Q (dec x y).1 (dec x y).2) := by
  unfold Con
  intro prog mean mg mb dp un gd cn cs a ccd cl outer A₀ base h₀ L m news s Q E B F X N T hk hd hu hret
  refine wpAny_call ?_
  k_extra "og enter"
  k_steps
  rw [dec_neg hy.2] at hret
  exact retP_end hret (by assumption) (by assumption) (by assumption) rfl rfl
end Og
/- part OgE -/
namespace Og
local macro_rules | `(tactic| walk_at "og idle") => `(tactic| done)
theorem rowsE : True := by
  k_with_none
  (k_with "og enter" => (k_dflt ((refine code_def (by k_asm) (by k_asm) (by k_asm) (by k_asm) (by k_asm) (by exact rfl) (by exact rfl) (by assumption) (by k_is) (by k_is) (by ktr_room) (by first | exact BindsTo.of_eq rfl | exact binds_K (by k_in) rfl (by k_is) rfl rfl rfl) (by exact locs rfl) ?_ (by exact rfl) (by exact rfl) (by exact rfl) (by decide)); k_whole; intro g' L' h' FG' F' N' B' X' T'; (try dsimp only); (try k_lift B'); (try k_fold))))
  (k_with "og: call type:str" => ((with_reducible show wpAny _ _ (call (Value.type "str") [Value.int _ _]) _ _ _); (refine og_str (by assumption) (abs_small (by assumption)) ?_)))
  exact True.intro
theorem log_small {x : Int} (hx : x.natAbs < 10 ^ 100) : x.natAbs.log2 < 1920 := by
  by_cases h0 : x.natAbs = 0
  · rw [h0]; decide
  · rw [Nat.log2_lt h0]
    exact Nat.lt_trans hx (by decide +kernel)
section
variable {prog : Program} {w : World} {A : Around} {E : Value → Shared → Prop} {s : Shared} {t u : Tok} {Q : Value → Shared → Prop}
theorem og_str {x : Int} {fs : Str} (e : Str.ofString (toString x) = fs) (hx : x.natAbs < 10 ^ 100) (h : Q (.str fs s.toks) { s with toks := s.toks + 1 }) : wpAny (model prog w) A (call (.type "str") [.int x t]) Q E s :=
  P.str_of_int (log_small hx) (e ▸ h)
end

theorem abs_small {x : Int} (hx : x.natAbs < 10 ^ 100) : (if x < 0 then -x else x).natAbs < 10 ^ 100 := by
  split <;> omega
/-- the figures of an int without its sign -/
noncomputable def figsOf (x : Int) : Str := Str.ofString (toString (if x < 0 then -x else x))
/-- what write_decimal puts together, as the walk tells it -/
noncomputable def wrBody (fs : Str) (y : Int) : Str := if 0 < y then Txt.slice (Txt.mul (Str.ofString "0") (y + 1 - (fs.length : Int)) ++ fs) none (some (((Txt.mul (Str.ofString "0") (y + 1 - (fs.length : Int)) ++ fs).length : Int) - y)) ++ Str.ofString "." ++ Txt.slice (Txt.mul (Str.ofString "0") (y + 1 - (fs.length : Int)) ++ fs) (some (((Txt.mul (Str.ofString "0") (y + 1 - (fs.length : Int)) ++ fs).length : Int) - y)) none else fs
noncomputable def wr (x : Int) (fs : Str) (y : Int) : Str := if x < 0 then Str.ofString "-" ++ wrBody fs y else wrBody fs y
theorem wr_np {x y : Int} {fs : Str} (hx : x < 0) (hy : 0 < y) : wr x fs y = Str.ofString "-" ++ (Txt.slice (Txt.mul (Str.ofString "0") (y + 1 - (fs.length : Int)) ++ fs) none (some (((Txt.mul (Str.ofString "0") (y + 1 - (fs.length : Int)) ++ fs).length : Int) - y)) ++ Str.ofString "." ++ Txt.slice (Txt.mul (Str.ofString "0") (y + 1 - (fs.length : Int)) ++ fs) (some (((Txt.mul (Str.ofString "0") (y + 1 - (fs.length : Int)) ++ fs).length : Int) - y)) none) := by
  rw [wr, if_pos hx, wrBody, if_pos hy]
theorem wr_pp {x y : Int} {fs : Str} (hx : 0 ≤ x) (hy : 0 < y) : wr x fs y = Txt.slice (Txt.mul (Str.ofString "0") (y + 1 - (fs.length : Int)) ++ fs) none (some (((Txt.mul (Str.ofString "0") (y + 1 - (fs.length : Int)) ++ fs).length : Int) - y)) ++ Str.ofString "." ++ Txt.slice (Txt.mul (Str.ofString "0") (y + 1 - (fs.length : Int)) ++ fs) (some (((Txt.mul (Str.ofString "0") (y + 1 - (fs.length : Int)) ++ fs).length : Int) - y)) none := by
  rw [wr, if_neg (by omega), wrBody, if_pos hy]
theorem wr_nz {x y : Int} {fs : Str} (hx : x < 0) (hy : y ≤ 0) : wr x fs y = Str.ofString "-" ++ fs := by
  rw [wr, if_pos hx, wrBody, if_neg (by omega)]
theorem wr_pz {x y : Int} {fs : Str} (hx : 0 ≤ x) (hy : y ≤ 0) : wr x fs y = fs := by
  rw [wr, if_neg (by omega), wrBody, if_neg (by omega)]
local macro_rules | `(tactic| walk_at "call type:str") => `(tactic| k_extra "og: call type:str")
set_option maxRecDepth 100000 in
set_option maxHeartbeats 8000000 in
theorem c_write (w : World) (D : Addr) (x y : Int) (tx ty : Tok) (c : Nat) (hy : 0 ≤ y ∧ y ≤ 100) (hx : x.natAbs < 10 ^ 100) (fs : Str) (hfs : Str.ofString (toString (if x < 0 then -x else x)) = fs) (hl : 1 ≤ fs.length ∧ fs.length ≤ 100) :
    Con w 1 91 [.ref D] (fun h₀ L m news s Q => (D, ({ cls := .type "tuple", data := .seq #[.int x tx, .int y ty] c } : Obj)) ∈ news ∧ RetS h₀ L m news s Q (wr x fs y)) := by
  unfold Con
  intro prog mean mg mb dp un gd cn cs a ccd cl outer A₀ base h₀ L m news s Q E B F X N T hk hd hu ⟨hD, hret⟩
  refine wpAny_call ?_
  k_extra "og enter"
  k_steps
  · exact cb_retS hret (wr_np (by omega) (by omega)).symm (by assumption) (by assumption)
  · exact cb_retS hret (wr_pp (by omega) (by omega)).symm (by assumption) (by assumption)
  · exact cb_retS hret (wr_nz (by omega) (by omega)).symm (by assumption) (by assumption)
  · exact cb_retS hret (wr_pz (by omega) (by omega)).symm (by assumption) (by assumption)
end Og
/- part OgF -/
namespace Og
theorem rowsF : True := by
  k_with_none
  (k_with "og enter" => (k_dflt ((refine code_def (by k_asm) (by k_asm) (by k_asm) (by k_asm) (by k_asm) (by exact rfl) (by exact rfl) (by assumption) (by k_is) (by k_is) (by ktr_room) (by first | exact BindsTo.of_eq rfl | exact binds_K (by k_in) rfl (by k_is) rfl rfl rfl) (by exact locs rfl) ?_ (by exact rfl) (by exact rfl) (by exact rfl) (by decide)); k_whole; intro g' L' h' FG' F' N' B' X' T'; (try dsimp only); (try k_lift B'); (try k_fold))))
  (k_with "og: call type:str" => ((with_reducible show wpAny _ _ (call (Value.type "str") [Value.int _ _]) _ _ _); (refine og_str (by assumption) (abs_small (by assumption)) ?_)))
  exact True.intro
local macro_rules | `(tactic| walk_at "call type:str") => `(tactic| k_extra "og: call type:str")
theorem zf_len {fs : Str} {y : Int} (hl : 1 ≤ fs.length ∧ fs.length ≤ 100) (hy : 0 ≤ y ∧ y ≤ 100) : (Txt.zfill fs (y + 1)).length ≤ 101 ∧ 1 ≤ (Txt.zfill fs (y + 1)).length ∧ y + 1 ≤ ((Txt.zfill fs (y + 1)).length : Int) := by
  have h := len_zfill fs (y + 1)
  split at h
  · omega
  · rename_i h2
    have h3 : ¬ ((fs.length : Int) < y + 1) := fun c => h2 (decide_eq_true c)
    omega
/-- what _law_shown puts together, as the walk tells it -/
noncomputable def shA (g : Str) (y : Int) : Str := Txt.slice g none (some ((g.length : Int) - y))
noncomputable def shS (x : Int) : Str := if x < 0 then Str.ofString "-" else Str.ofString ""
noncomputable def shB (g : Str) (y : Int) : Str := if 0 < y then Str.ofString "." ++ Txt.slice g (some ((shA g y).length : Int)) none else Str.ofString ""
noncomputable def sh (x : Int) (fs : Str) (y : Int) : Str := shS x ++ shA (Txt.zfill fs (y + 1)) y ++ shB (Txt.zfill fs (y + 1)) y
theorem shS_n {x : Int} (h : x < 0) : shS x = Str.ofString "-" := if_pos h
theorem shS_p {x : Int} (h : 0 ≤ x) : shS x = Str.ofString "" := if_neg (by omega)
theorem shB_p {g : Str} {y : Int} (h : 0 < y) : shB g y = Str.ofString "." ++ Txt.slice g (some ((shA g y).length : Int)) none := if_pos h
theorem shB_z {g : Str} {y : Int} (h : y ≤ 0) : shB g y = Str.ofString "" := if_neg (by omega)
set_option maxRecDepth 100000 in
set_option maxHeartbeats 8000000 in
theorem c_shown (w : World) (D : Addr) (x y : Int) (tx ty : Tok) (c : Nat) (hy : 0 ≤ y ∧ y ≤ 100) (hx : x.natAbs < 10 ^ 100) (fs : Str) (hfs : Str.ofString (toString (if x < 0 then -x else x)) = fs) (hl : 1 ≤ fs.length ∧ fs.length ≤ 100) :
    Con w 1 131 [.ref D] (fun h₀ L m news s Q => (D, ({ cls := .type "tuple", data := .seq #[.int x tx, .int y ty] c } : Obj)) ∈ news ∧ RetS h₀ L m news s Q (sh x fs y)) := by
  unfold Con
  intro prog mean mg mb dp un gd cn cs a ccd cl outer A₀ base h₀ L m news s Q E B F X N T hk hd hu ⟨hD, hret⟩
  have hz := zf_len hl hy
  refine wpAny_call ?_
  k_extra "og enter"
  k_steps
  · exact cb_retS hret (by rw [sh, shS_n (by omega), shB_p (by omega)]; rfl) (by assumption) (by assumption)
  · exact cb_retS hret (by rw [sh, shS_n (by omega), shB_z (by omega)]; rfl) (by assumption) (by assumption)
  · exact cb_retS hret (by rw [sh, shS_p (by omega), shB_p (by omega)]; rfl) (by assumption) (by assumption)
  · exact cb_retS hret (by rw [sh, shS_p (by omega), shB_z (by omega)]; rfl) (by assumption) (by assumption)
end Og
/- part OgG -/
namespace Og
theorem rowsG : True := by
  k_with_none
  (k_with "og enter" => (k_dflt ((refine code_def (by k_asm) (by k_asm) (by k_asm) (by k_asm) (by k_asm) (by exact rfl) (by exact rfl) (by assumption) (by k_is) (by k_is) (by ktr_room) (by first | exact BindsTo.of_eq rfl | exact binds_K (by k_in) rfl (by k_is) rfl rfl rfl) (by exact locs rfl) ?_ (by exact rfl) (by exact rfl) (by exact rfl) (by decide)); k_whole; intro g' L' h' FG' F' N' B' X' T'; (try dsimp only); (try k_lift B'); (try k_fold))))
  exact True.intro
theorem list_in {h₀ g : Heap} {L l : Addr} {m : Str → Option Value} {items : Array Value} (F : Fr h₀ L g m) (hl : h₀.IsList l items) : g.IsList l items := stays_list F.keep hl
noncomputable def lF (ns : List Int) : Int := if (2 * 0 : Int) < (ns.length : Int) then ns.getD (2 * 0 : Int).toNat 0 else 7 + 18 * 0
noncomputable def lG (ns : List Int) : Int := if (2 * 0 + 1 : Int) < (ns.length : Int) then ns.getD (2 * 0 + 1 : Int).toNat 0 else 30 + 0
noncomputable def ldU (f g : Int) : Int := if (g.fdiv 1800).fmod 2 = 1 then -f.fmod (10 ^ (1 + (g.fdiv 24).fmod 75).toNat) else f.fmod (10 ^ (1 + (g.fdiv 24).fmod 75).toNat)
noncomputable def ldS (g : Int) : Int := g.fmod 24 - 5
theorem lF_p {ns : List Int} (h : (2 * 0 : Int) < (ns.length : Int)) : lF ns = ns.getD (2 * 0 : Int).toNat 0 := if_pos h
theorem lF_n {ns : List Int} (h : ¬ (2 * 0 : Int) < (ns.length : Int)) : lF ns = 7 + 18 * 0 := if_neg h
theorem lG_p {ns : List Int} (h : (2 * 0 + 1 : Int) < (ns.length : Int)) : lG ns = ns.getD (2 * 0 + 1 : Int).toNat 0 := if_pos h
theorem lG_n {ns : List Int} (h : ¬ (2 * 0 + 1 : Int) < (ns.length : Int)) : lG ns = 30 + 0 := if_neg h
theorem ldU_p {f g : Int} (h : (g.fdiv 1800).fmod 2 = 1) : ldU f g = -f.fmod (10 ^ (1 + (g.fdiv 24).fmod 75).toNat) := if_pos h
theorem ldU_n {f g : Int} (h : (g.fdiv 1800).fmod 2 ≠ 1) : ldU f g = f.fmod (10 ^ (1 + (g.fdiv 24).fmod 75).toNat) := if_neg h
theorem ldU_bound (f g : Int) : (ldU f g).natAbs < 10 ^ 75 := by
  have h0 : 0 ≤ (g.fdiv 24).fmod 75 := Int.fmod_nonneg_of_pos _ (by decide)
  have h1 : (g.fdiv 24).fmod 75 < 75 := Int.fmod_lt_of_pos _ (by decide)
  have hp : (0 : Int) < 10 ^ (1 + (g.fdiv 24).fmod 75).toNat := Int.pow_pos (by decide)
  have h2 : 0 ≤ f.fmod (10 ^ (1 + (g.fdiv 24).fmod 75).toNat) := Int.fmod_nonneg_of_pos _ hp
  have h3 : f.fmod (10 ^ (1 + (g.fdiv 24).fmod 75).toNat) < 10 ^ (1 + (g.fdiv 24).fmod 75).toNat := Int.fmod_lt_of_pos _ hp
  have h4 : (10 : Nat) ^ (1 + (g.fdiv 24).fmod 75).toNat ≤ 10 ^ 75 := Nat.pow_le_pow_right (by decide) (by omega)
  have h5 : ((10 : Int) ^ (1 + (g.fdiv 24).fmod 75).toNat) = ((10 ^ (1 + (g.fdiv 24).fmod 75).toNat : Nat) : Int) := by rw [Int.natCast_pow]; rfl
  rw [h5] at h3 h2
  unfold ldU
  rw [h5]
  generalize (10 : Nat) ^ (1 + (g.fdiv 24).fmod 75).toNat = P at *
  split <;> omega
theorem ldS_bound (g : Int) : -5 ≤ ldS g ∧ ldS g ≤ 18 := by
  have h0 : 0 ≤ g.fmod 24 := Int.fmod_nonneg_of_pos _ (by decide)
  have h1 : g.fmod 24 < 24 := Int.fmod_lt_of_pos _ (by decide)
  unfold ldS
  omega
set_option maxRecDepth 100000 in
set_option maxHeartbeats 8000000 in
theorem c_ldec (w : World) (l : Addr) (vs : List Value) (ns : List Int) (t0 : Tok) (hi : IntsAre vs ns) (hn : ns.length ≤ 63) :
    Con w 1 98 [.ref l, .int 0 t0] (fun h₀ L m news s Q => h₀.IsList l vs.toArray ∧ RetP h₀ L m news s Q (ldU (lF ns) (lG ns)) (ldS (lG ns))) := by
  unfold Con
  intro prog mean mg mb dp un gd cn cs a ccd cl outer A₀ base h₀ L m news s Q E B F X N T hk hd hu ⟨hD, hret⟩
  refine wpAny_call ?_
  k_extra "og enter"
  have hD' := list_in (by assumption) hD
  k_steps
  · exact retP_end hret (by assumption) (by assumption) (by assumption) (by rw [lF_p (by assumption), lG_p (by assumption), ldU_p (by assumption)]) (by rw [lG_p (by assumption)]; rfl)
  · exact retP_end hret (by assumption) (by assumption) (by assumption) (by rw [lF_p (by assumption), lG_p (by assumption), ldU_n (by assumption)]) (by rw [lG_p (by assumption)]; rfl)
  · exact retP_end hret (by assumption) (by assumption) (by assumption) (by rw [lF_p (by assumption), lG_n (by assumption), ldU_n (by decide)]) (by rw [lG_n (by assumption)]; rfl)
  · exact retP_end hret (by assumption) (by assumption) (by assumption) (by rw [lF_n (by assumption), lG_n (by omega), ldU_n (by decide)]) (by rw [lG_n (by omega)]; rfl)
end Og
/- part OgH -/
namespace Og
theorem rowsH : True := by
  k_with_none
  (k_with "og enter" => (k_dflt ((refine code_def (by k_asm) (by k_asm) (by k_asm) (by k_asm) (by k_asm) (by exact rfl) (by exact rfl) (by assumption) (by k_is) (by k_is) (by ktr_room) (by first | exact BindsTo.of_eq rfl | exact binds_K (by k_in) rfl (by k_is) rfl rfl rfl) (by exact locs rfl) ?_ (by exact rfl) (by exact rfl) (by exact rfl) (by decide)); k_whole; intro g' L' h' FG' F' N' B' X' T'; (try dsimp only); (try k_lift B'); (try k_fold))))
  (k_with "og: binaryOp Add str str" => (refine og_add (by (have hs := snoc_len kEq); omega) (Nat.le_trans menu_len (by decide)) ?_; intro _ _))
  exact True.intro
local macro_rules | `(tactic| k_memK) => `(tactic| first | (refine List.Mem.tail _ ?_; assumption) | assumption)
noncomputable def Sign (c : Int) : Prop := (48 ≤ c ∧ c ≤ 57) ∨ c = 46 ∨ c = 45 ∨ c = 43 ∨ c = 32 ∨ c = 120
noncomputable def Alpha (x : Str) : Prop := ∀ c ∈ KStt.codes x, Sign c
noncomputable abbrev RetT (h₀ : Heap) (L : Addr) (m : Str → Option Value) (news : List (Addr × Obj)) (s : Shared) (Q : Value → Shared → Prop) (n : Nat) : Prop :=
  ∀ (x : Str) (t : Tok) (h' : Heap) (tk' : Nat), Alpha x → x.length ≤ n → Fr h₀ L h' m → News h₀ L h' news → Q (.str x t) { s with heap := h', toks := tk' }
theorem getD_all {α : Type} {P : α → Prop} {l : List α} {d : α} {i : Nat} (h : ∀ x ∈ l, P x) (hd : P d) : P (l.getD i d) := by
  by_cases hi : i < l.length
  · have e : l.getD i d = l[i] := by simp [List.getD, hi]
    rw [e]; exact h _ (List.getElem_mem hi)
  · have e : l.getD i d = d := by simp [List.getD, Nat.not_lt.mp hi]
    rw [e]; exact hd
noncomputable abbrev menu : List Str := [Str.ofString "0", Str.ofString "1", Str.ofString "2", Str.ofString "3", Str.ofString "4", Str.ofString "5", Str.ofString "6", Str.ofString "7", Str.ofString "8", Str.ofString "9", Str.ofString ".", Str.ofString "-", Str.ofString "+", Str.ofString " ", Str.ofString "x", Str.ofString "00"]
theorem menu_len {i : Nat} : (menu.getD i Str.empty).length ≤ 2 := getD_all (P := fun x : Str => x.length ≤ 2) (by decide +kernel) (by decide)
noncomputable def signB (c : Int) : Bool := (48 ≤ c && c ≤ 57) || c == 46 || c == 45 || c == 43 || c == 32 || c == 120
theorem sign_of {c : Int} (h : signB c = true) : Sign c := by
  unfold signB at h
  unfold Sign
  simp only [Bool.or_eq_true, Bool.and_eq_true, decide_eq_true_eq, beq_iff_eq, or_assoc] at h
  exact h
theorem of_sign {c : Int} (h : Sign c) : signB c = true := by
  unfold signB
  unfold Sign at h
  simp only [Bool.or_eq_true, Bool.and_eq_true, decide_eq_true_eq, beq_iff_eq, or_assoc]
  exact h
theorem alpha_of {x : Str} (h : (KStt.codes x).all signB = true) : Alpha x := fun c hc => sign_of (List.all_eq_true.mp h c hc)
theorem menu_alpha {i : Nat} : Alpha (menu.getD i Str.empty) := alpha_of (getD_all (P := fun x : Str => (KStt.codes x).all signB = true) (by decide +kernel) (by decide))
theorem codes_app (a b : Str) : KStt.codes (a ++ b) = KStt.codes a ++ KStt.codes b := by
  unfold KStt.codes
  rw [KT.app_list, List.map_append]
theorem alpha_app {a b : Str} (ha : Alpha a) (hb : Alpha b) : Alpha (a ++ b) := by
  intro c hc
  rw [codes_app] at hc
  rcases List.mem_append.mp hc with h | h
  · exact ha c h
  · exact hb c h
section
variable {prog : Program} {w : World} {A : Around} {E : Value → Shared → Prop} {s : Shared} {t u : Tok} {Q : Value → Shared → Prop}
theorem og_add {x y : Str} (hx : x.length ≤ 1000) (hy : y.length ≤ 1000) (h : ∀ t' c, Q (.str (x ++ y) t') { s with toks := c }) : wpAny (model prog w) A (binaryOp .Add (.str x t) (.str y u)) Q E s :=
  SBL.add (fun t' c _ => h t' c) (by rw [sizeLine_eq]; omega)
end
theorem news_tail {h₀ h : Heap} {L : Addr} {q : Addr × Obj} {news : List (Addr × Obj)} (N : News h₀ L h (q :: news)) : News h₀ L h news := fun p hp => N p (.tail _ hp)
theorem snoc_len {ns pre post : List Int} {n : Int} (e : ns = pre ++ n :: post) : pre.length + 1 ≤ ns.length := by rw [e]; simp
theorem text_step {x : Str} {pre : List Int} {n : Int} {i : Nat} (ha : Alpha x) (hl : x.length ≤ 2 * pre.length) : Alpha (x ++ menu.getD i Str.empty) ∧ (x ++ menu.getD i Str.empty).length ≤ 2 * (pre ++ [n]).length := by
  refine ⟨alpha_app ha menu_alpha, ?_⟩
  have := menu_len (i := i)
  rw [Str.length_append, List.length_append]
  simp only [List.length_cons, List.length_nil]
  omega
local macro_rules | `(tactic| walk_at "binaryOp Add str str") => `(tactic| k_extra "og: binaryOp Add str str")
set_option maxRecDepth 100000 in
set_option maxHeartbeats 8000000 in
theorem c_text (w : World) (l : Addr) (vs : List Value) (ns : List Int) (c : Nat) (hi : IntsAre vs ns) (hn : ns.length ≤ 14) :
    Con w 1 119 [.ref l] (fun h₀ L m news s Q => (l, listOf vs.toArray c) ∈ news ∧ RetT h₀ L m news s Q 28) := by
  unfold Con
  intro prog mean mg mb dp un gd cn cs a ccd cl outer A₀ base h₀ L m news s Q E B F X N T hk hd hu ⟨hD, hret⟩
  (k_with "pyIter ref" => k_state (fun pre found => Og.Alpha found ∧ found.length ≤ 2 * pre.length) "found")
  (k_with "state" => (first | exact ⟨Og.alpha_of (by decide +kernel), Nat.zero_le _⟩ | exact Og.text_step (by assumption) (by assumption)))
  refine wpAny_call ?_
  k_extra "og enter"
  k_steps
  exact hret _ _ _ _ (by assumption) (by omega) (by assumption) (news_tail (by assumption))
end Og
/- part OgI -/
namespace Og
theorem rowsI : True := by
  k_with_none
  (k_with "og enter" => (k_dflt ((refine code_def (by k_asm) (by k_asm) (by k_asm) (by k_asm) (by k_asm) (by exact rfl) (by exact rfl) (by assumption) (by k_is) (by k_is) (by ktr_room) (by first | exact BindsTo.of_eq rfl | exact binds_K (by k_in) rfl (by k_is) rfl rfl rfl) (by exact locs rfl) ?_ (by exact rfl) (by exact rfl) (by exact rfl) (by decide)); k_whole; intro g' L' h' FG' F' N' B' X' T'; (try dsimp only); (try k_lift B'); (try k_fold))))
  (k_with "og enter cells" => (k_dflt ((refine code_defC (by k_asm) (by k_asm) (by k_asm) (by k_asm) (by k_asm) (by exact rfl) (by exact rfl) (by assumption) (by k_is) (by k_is) (by ktr_room) (by first | exact BindsTo.of_eq rfl | exact binds_K (by k_in) rfl (by k_is) rfl rfl rfl) (by exact rfl) (by decide +kernel) ?_ (by exact rfl) (by exact rfl) (by exact rfl)); k_whole; intro g' L' h' tk' cells' FG' F' N' Y' B' X' T' l1; (try k_lt l1); k_cells Y'; (try simp only [List.cons_append, List.nil_append] at N'); (try dsimp only); (try k_lift B'); (try k_fold))))
  (k_with "og: call builtin:len" => ((with_reducible show wpAny _ _ (call (Value.builtin "len") [Value.str _ _]) _ _ _); (refine og_len (by with_reducible assumption) (by omega) ?_)))
  (k_with "og: call builtin:str.find" => ((show wpAny _ _ (call (Value.builtin "str.find") [Value.str _ _, Value.str _ _]) _ _ _); (refine og_find (by with_reducible assumption) ?_)))
  (k_with "og: subscriptTail Name Slice str ref" => ((with_reducible show wpAny _ _ (subscriptTail _ (Expr.Slice (some _) none none _) _ _) _ _ _); (with_reducible rename Fr _ _ _ _ => F'); (with_reducible rename News _ _ _ _ => N'); (refine og_sn (s := ⟨_, _, _, _, _⟩) (by with_reducible assumption) (by omega) F' N' ?_); intro _ _ _ _ _))
  (k_with "og: subscriptTail Name Slice str ref" => ((with_reducible show wpAny _ _ (subscriptTail _ (Expr.Slice none (some _) none _) _ _) _ _ _); (with_reducible rename Fr _ _ _ _ => F'); (with_reducible rename News _ _ _ _ => N'); (refine og_ns (s := ⟨_, _, _, _, _⟩) (by with_reducible assumption) (by omega) F' N' ?_); intro _ _ _ _ _))
  (k_with "og: CompEnd" => (refine LCg.CompEnd.intro (by assumption) (by assumption) _ (fun p hp => hp) (by assumption) True.intro ?_))
  (k_with "og: KCiEl" => exact kci_el (odd_el (by assumption) (by assumption)) rfl rfl)
  (k_with "og: KCiNo" => first | exact kci_no (odd_no1 (by assumption)) rfl | exact kci_no (odd_no2 (by assumption)) rfl)
  (k_with "og: KPfGrows" => exact odd_grow _ _)
  (k_with "og: subscriptTail" => ((with_reducible show wpAny _ _ (subscriptTail _ _ (Value.str _ _) (Value.int _ _)) _ _ _); (refine og_item (by omega) (by omega) (by omega) ?_); intro _ _))
  (k_with "og: compareOp NotEq ref ref" => (k_dflt (refine ke_ne_ints (by is_list) (by is_list) (by l_ints) (by l_ints) (by (simp only [units_deeper]; dsimp only [ktrTop]; omega)) ?_)))
  (k_with "og: subscriptTail" => ((with_reducible show wpAny _ _ (subscriptTail _ _ (Value.ref _) (Value.int 0 _)) _ _ _); k_dflt (refine og_item0 (by is_list) (by l_ints) (by first | assumption | exact ne_of_nd (by assumption)) ?_); intro _))
  (k_with "og lt" => first | assumption | exact (And.right (by assumption)) | exact (And.right (And.right (by assumption))) | exact (And.right (And.right (And.right (by assumption)))) | exact (And.right (And.right (And.right (And.right (by assumption))))) | exact (And.right (And.right (And.right (And.right (And.right (by assumption)))))) | exact (And.right (And.right (And.right (And.right (And.right (And.right (by assumption))))))) | exact (And.right (And.right (And.right (And.right (And.right (And.right (And.right (by assumption)))))))) | exact (And.right (And.right (And.right (And.right (And.right (And.right (And.right (And.right (by assumption))))))))) | exact (And.right (And.right (And.right (And.right (And.right (And.right (And.right (And.right (And.right (by assumption)))))))))) | exact And.left (by assumption))
  (k_with "og sub" => (intro p hp; repeat (first | exact hp | refine List.Mem.tail _ ?_)))
  exact True.intro
theorem ne_all {news : List (Addr × Obj)} {d e : Nat} (h : ∀ p ∈ news, @LT.lt Nat _ p.1 e) (hd : e ≤ d) : ∀ p ∈ news, p.1 ≠ d := fun p hp => Nat.ne_of_lt (Nat.lt_of_lt_of_le (h p hp) hd)
local macro_rules | `(tactic| k_all) => `(tactic| exact ne_all (by assumption) (by omega))
section
variable {prog : Program} {w : World} {A : Around} {E : Value → Shared → Prop} {s : Shared} {t u : Tok} {h₀ : Heap} {L : Addr} {m : Str → Option Value} {news : List (Addr × Obj)} {Q : Value → Shared → Prop} {x : Str} {value slice : PySem.Expr}
theorem og_len {b : Int} (e : (x.length : Int) = b) (hl : x.length ≤ 1000) (h : Q (.int b (s.toks + 1)) { s with toks := s.toks + 1 + 1 }) : wpAny (model prog w) A (call (.builtin "len") [.str x t]) Q E s :=
  P.len_str (by omega) (e ▸ h)
theorem og_find {y : Str} {b : Int} (e : Txt.find x y = b) (h : Q (.int b s.toks) { s with toks := s.toks + 1 }) : wpAny (model prog w) A (call (.builtin "str.find") [.str x t, .str y u]) Q E s :=
  SC.find (e ▸ h)
theorem og_sn {i : Int} {ui : Tok} {y : Str} (e : Txt.slice x (some i) none = y) (hl : x.length ≤ 1000) (hF : Fr h₀ L s.heap m) (hN : News h₀ L s.heap news) (h : ∀ h' t' k, Fr h₀ L h' m → News h₀ L h' news → Q (.str y t') { s with heap := h', toks := k })
    (hs : subscripted slice false (.str x t) (.ref s.heap.objs.size) = operate [.ref s.heap.objs.size, .str x t] (getItem (.str x t) (.ref s.heap.objs.size)) := by with_unfolding_all rfl)
    (ht : ∀ r, letTemporaryGo value (.str x t) r = pure () := by intro _; with_unfolding_all rfl) :
    wpAny (model prog w) A (subscriptTail value slice (.str x t) (.ref s.heap.objs.size)) Q E { s with heap := s.heap.push { cls := .type "slice", data := .fields #[.int i ui, .none, .none] } } :=
  slice_strN_sn hF hN (fun h' t' k a b => by rw [e]; exact h h' t' k a b) hs ht (by rw [sizeLine_eq]; omega)
theorem og_ns {j : Int} {uj : Tok} {y : Str} (e : Txt.slice x none (some j) = y) (hl : x.length ≤ 1000) (hF : Fr h₀ L s.heap m) (hN : News h₀ L s.heap news) (h : ∀ h' t' k, Fr h₀ L h' m → News h₀ L h' news → Q (.str y t') { s with heap := h', toks := k })
    (hs : subscripted slice false (.str x t) (.ref s.heap.objs.size) = operate [.ref s.heap.objs.size, .str x t] (getItem (.str x t) (.ref s.heap.objs.size)) := by with_unfolding_all rfl)
    (ht : ∀ r, letTemporaryGo value (.str x t) r = pure () := by intro _; with_unfolding_all rfl) :
    wpAny (model prog w) A (subscriptTail value slice (.str x t) (.ref s.heap.objs.size)) Q E { s with heap := s.heap.push { cls := .type "slice", data := .fields #[.none, .int j uj, .none] } } :=
  slice_strN_ns hF hN (fun h' t' k a b => by rw [e]; exact h h' t' k a b) hs ht (by rw [sizeLine_eq]; omega)
end
local macro_rules | `(tactic| walk_at "call builtin:len") => `(tactic| k_extra "og: call builtin:len")
local macro_rules | `(tactic| walk_at "call builtin:str.find") => `(tactic| k_extra "og: call builtin:str.find")
local macro_rules | `(tactic| walk_at "subscriptTail Name Slice str ref") => `(tactic| k_extra "og: subscriptTail Name Slice str ref")
/-- is the sign at place k of the tail odd: no figure, and not the first point -/
noncomputable def oddB (tl : Str) (pt k : Int) : Bool := (Builtin.Str.occurrences (Str.ofString "0123456789") (Txt.item tl k) 0 (Str.ofString "0123456789").length 1).isEmpty && k != pt
noncomputable def oddG (tl : Str) (pt : Int) : List Int → Int → List Int := fun l k => if oddB tl pt k = true then l ++ [k] else l
theorem odd_el {tl : Str} {pt k : Int} {l : List Int} (h1 : (Builtin.Str.occurrences (Str.ofString "0123456789") (Txt.item tl k) 0 (Str.ofString "0123456789").length 1).isEmpty = true) (h2 : k ≠ pt) : oddG tl pt l k = l ++ [k] := by
  have : oddB tl pt k = true := by rw [oddB, h1]; simpa using h2
  rw [oddG, if_pos this]
theorem odd_no1 {tl : Str} {pt k : Int} {l : List Int} (h1 : (Builtin.Str.occurrences (Str.ofString "0123456789") (Txt.item tl k) 0 (Str.ofString "0123456789").length 1).isEmpty = false) : oddG tl pt l k = l := by
  have : ¬ oddB tl pt k = true := by rw [oddB, h1]; simp
  rw [oddG, if_neg this]
theorem odd_no2 {tl : Str} {pt k : Int} {l : List Int} (h2 : k = pt) : oddG tl pt l k = l := by
  have : ¬ oddB tl pt k = true := by rw [oddB, h2]; simp
  rw [oddG, if_neg this]
theorem odd_grow (tl : Str) (pt : Int) : KPfGrows (oddG tl pt) := fun l k => by
  rw [oddG]; split
  · simp
  · omega
local macro_rules | `(tactic| walk_at "CompEnd") => `(tactic| k_extra "og: CompEnd")
local macro_rules | `(tactic| walk_at "KCiEl") => `(tactic| k_extra "og: KCiEl")
local macro_rules | `(tactic| walk_at "KCiNo") => `(tactic| k_extra "og: KCiNo")
local macro_rules | `(tactic| walk_at "KPfGrows") => `(tactic| k_extra "og: KPfGrows")
section
variable {prog : Program} {w : World} {A : Around} {E : Value → Shared → Prop} {s : Shared} {t u : Tok} {Q : Value → Shared → Prop} {x : Str} {value slice : PySem.Expr}
theorem og_item {i : Int} (hx : x.length ≤ 1000) (h0 : 0 ≤ i) (h1 : i < (x.length : Int)) (h : ∀ t k, Q (.str (Txt.item x i) t) { s with toks := k })
    (hs : subscripted slice false (.str x t) (.int i u) = operate [.str x t, .int i u] (getItem (.str x t) (.int i u)) := by with_unfolding_all rfl)
    (ht : ∀ r, letTemporaryGo value (.str x t) r = pure () := by intro _; with_unfolding_all rfl) :
    wpAny (model prog w) A (subscriptTail value slice (.str x t) (.int i u)) Q E s :=
  item_str (fitsSsize_of (N := 9223372036854775808) (by omega) (by omega) (Int.le_refl _)) (by omega) h1 (fun _ => h _ _) hs ht
end
local macro_rules | `(tactic| walk_at "subscriptTail") => `(tactic| k_extra "og: subscriptTail")
local macro_rules | `(tactic| walk_at "CompSrcT") => `(tactic| k_extra "og comp")
local macro_rules | `(tactic| walk_at "compareOp NotEq ref ref") => `(tactic| k_extra "og: compareOp NotEq ref ref")
section
variable {prog : Program} {w : World} {A : Around} {E : Value → Shared → Prop} {s : Shared} {t u : Tok} {Q : Value → Shared → Prop} {x : Str} {value slice : PySem.Expr}
theorem og_int {n : Int} (e : PySem.intText? x = some n) (hl : x.length ≤ 640) (h : ∀ t k, Q (.int n t) { s with toks := k }) : wpAny (model prog w) A (call (.type "int") [.str x t]) Q E s :=
  KIN.call_text e hl (h _ _)
theorem og_item0 {l : Addr} {vs : List Value} {ns : List Int} (hl : s.heap.IsList l vs.toArray) (hi : IntsAre vs ns) (hne : ns ≠ []) (h : ∀ t, Q (.int (ns.headD 0) t) s)
    (hs : subscripted slice false (.ref l) (.int 0 u) = operate [.ref l, .int 0 u] (getItem (.ref l) (.int 0 u)) := by with_unfolding_all rfl) (hg : ∀ r, letTemporaryGo value (.ref l) r = pure () := by intro _; with_unfolding_all rfl) :
    wpAny (model prog w) A (subscriptTail value slice (.ref l) (.int 0 u)) Q E s := by
  refine item_list_ints hl hi (by omega) ?_ (by decide) (fun t => ?_) hs hg
  · cases ns with
    | nil => exact absurd rfl hne
    | cons a r => simp only [List.length_cons]; omega
  · cases ns with
    | nil => exact absurd rfl hne
    | cons a r => exact h t
end
theorem ne_of_nd {l : List Int} (h : decide (l = []) = false) : l ≠ [] := of_decide_eq_false h
local macro_rules | `(tactic| walk_at "call type:int") => `(tactic| k_extra "og int")
noncomputable abbrev odds (tl : Str) (pt : Int) : List Int := (rangeKs 0 ((tl.length : Int) - 0).toNat).foldl (oddG tl pt) []
/-- what _law_read hands back: a place of a fault, or units and scale -/
noncomputable abbrev RetR (h₀ : Heap) (L : Addr) (m : Str → Option Value) (news : List (Addr × Obj)) (s : Shared) (Q : Value → Shared → Prop) : Int ⊕ (Int × Int) → Prop
  | .inl k => ∀ (D : Addr) (t : Tok) (c : Nat) (h' : Heap) (tk' : Nat), Fr h₀ L h' m → News h₀ L h' ((D, ({ cls := .type "tuple", data := .seq #[.none, .int k t] c } : Obj)) :: news) → (∀ p ∈ news, p.1 < D) → Q (.ref D) { s with heap := h', toks := tk' }
  | .inr (x, y) => ∀ (D D2 : Addr) (t u : Tok) (c c' : Nat) (h' : Heap) (tk' : Nat), Fr h₀ L h' m → News h₀ L h' ((D, ({ cls := .type "tuple", data := .seq #[.ref D2, .none] c } : Obj)) :: (D2, ({ cls := .type "tuple", data := .seq #[.int x t, .int y u] c' } : Obj)) :: news) → (∀ p ∈ news, p.1 < D2) → (∀ p ∈ news, p.1 < D) → D2 < D → Q (.ref D) { s with heap := h', toks := tk' }
section
variable {h₀ h' : Heap} {L D D2 : Addr} {m : Str → Option Value} {news rest : List (Addr × Obj)} {s : Shared} {Q : Value → Shared → Prop} {k k' : Int} {t u : Tok} {c c' : Nat} {tk' : Nat} {x y x' y' : Int} {r : Int ⊕ (Int × Int)}
theorem retR_l (hret : RetR h₀ L m news s Q r) (e : r = .inl k) (F : Fr h₀ L h' m) (N : News h₀ L h' ((D, ({ cls := .type "tuple", data := .seq #[.none, .int k t] c } : Obj)) :: rest)) (hs : ∀ p ∈ news, p ∈ rest) (hl : AllLt D news) : Q (.ref D) { s with heap := h', toks := tk' } := by
  subst e
  refine hret D t c h' tk' F (fun p hp => ?_) (ktn_ltOf hl)
  rcases List.mem_cons.mp hp with rfl | hp
  · exact N _ (.head _)
  · exact N _ (.tail _ (hs p hp))
theorem retR_r (hret : RetR h₀ L m news s Q r) (e : r = .inr (x, y)) (F : Fr h₀ L h' m) (N : News h₀ L h' ((D, ({ cls := .type "tuple", data := .seq #[.ref D2, .none] c } : Obj)) :: (D2, ({ cls := .type "tuple", data := .seq #[.int x t, .int y u] c' } : Obj)) :: rest)) (hs : ∀ p ∈ news, p ∈ rest) (hl : AllLt D2 news) (hl2 : AllLt D news) (hD : @LT.lt Nat _ D2 D) : Q (.ref D) { s with heap := h', toks := tk' } := by
  subst e
  refine hret D D2 t u c c' h' tk' F (fun p hp => ?_) (ktn_ltOf hl) (ktn_ltOf hl2) hD
  rcases List.mem_cons.mp hp with rfl | hp
  · exact N _ (.head _)
  · rcases List.mem_cons.mp hp with rfl | hp
    · exact N _ (.tail _ (.head _))
    · exact N _ (.tail _ (.tail _ (hs p hp)))
end
noncomputable def rd (x tl : Str) (pt b ui n : Int) : Int ⊕ (Int × Int) :=
  if 0 ≤ pt ∧ pt = (tl.length : Int) - 1 then .inl x.length else if (tl == Str.ofString "") = true then .inl b else
    if decide (odds tl pt = []) = true then .inr (if (Txt.item x 0 == Str.ofString "-") = true then -ui else ui, n) else .inl (b + (odds tl pt).headD 0)
theorem rd_1 {x tl : Str} {pt b ui n : Int} (h0 : 0 ≤ pt) (h : pt = (tl.length : Int) - 1) : rd x tl pt b ui n = .inl x.length := if_pos ⟨h0, h⟩
theorem rd_2 {x tl : Str} {pt b ui n : Int} (h : ¬ (0 ≤ pt ∧ pt = (tl.length : Int) - 1)) (h2 : (tl == Str.ofString "") = true) : rd x tl pt b ui n = .inl b := by rw [rd, if_neg h, if_pos h2]
theorem rd_3 {x tl : Str} {pt b ui n : Int} (h : ¬ (0 ≤ pt ∧ pt = (tl.length : Int) - 1)) (h2 : (tl == Str.ofString "") = false) (h3 : decide (odds tl pt = []) = true) (h4 : (Txt.item x 0 == Str.ofString "-") = true) : rd x tl pt b ui n = .inr (-ui, n) := by
  rw [rd, if_neg h, if_neg (by rw [h2]; decide), if_pos h3, if_pos h4]
theorem rd_4 {x tl : Str} {pt b ui n : Int} (h : ¬ (0 ≤ pt ∧ pt = (tl.length : Int) - 1)) (h2 : (tl == Str.ofString "") = false) (h3 : decide (odds tl pt = []) = true) (h4 : (Txt.item x 0 == Str.ofString "-") = false) : rd x tl pt b ui n = .inr (ui, n) := by
  rw [rd, if_neg h, if_neg (by rw [h2]; decide), if_pos h3, if_neg (by rw [h4]; decide)]
theorem rd_5 {x tl : Str} {pt b ui n : Int} (h : ¬ (0 ≤ pt ∧ pt = (tl.length : Int) - 1)) (h2 : (tl == Str.ofString "") = false) (h3 : decide (odds tl pt = []) = false) : rd x tl pt b ui n = .inl (b + (odds tl pt).headD 0) := by
  rw [rd, if_neg h, if_neg (by rw [h2]; decide), if_neg (by rw [h3]; decide)]
set_option maxRecDepth 100000 in
set_option maxHeartbeats 2000000 in
theorem c_readP (w : World) (x tl ah be : Str) (tx : Tok) (b pt ui : Int) (hne : (x != Str.ofString "") = true) (hb : ((Txt.lstripChars (Txt.slice x none (some 1)) (Str.ofString "0123456789. x")).length : Int) = b) (hb1 : 0 ≤ b ∧ b ≤ 1)
    (htl : Txt.slice x (some b) none = tl) (hpt : Txt.find tl (Str.ofString ".") = pt) (hl : x.length ≤ 40) (hl2 : tl.length ≤ 40) (hp : 0 ≤ pt ∧ pt ≤ 40) (hah : Txt.slice tl none (some pt) = ah) (hbe : Txt.slice tl (some (pt + 1)) none = be) (hla : ah.length ≤ 40) (hlb : be.length ≤ 40)
    (hun : decide (odds tl pt = []) = true → PySem.intText? (Str.ofString "0" ++ ah ++ be) = some ui) :
    Con w 1 124 [.str x tx] (fun h₀ L m news s Q => RetR h₀ L m news s Q (rd x tl pt b ui (be.length : Int))) := by
  unfold Con
  intro prog mean mg mb dp un gd cn cs a ccd cl outer A₀ base h₀ L m news s Q E B F X N T hk hd hu hret
  (k_with "og comp" => (k_dflt (refine LCt.CompSrcT.range (by rfl) (by k_asm) (by k_asm) (by assumption) (by exact small_one (by omega) (by omega) (by omega) (by omega)) (by exact rangeSize_nat _ _) (by rw [PySem.sizeLine_eq]; omega) ?_; intro g'; (refine' kci_range (oddG tl pt) (fun k' t' I' oI' C' oC' D' m' ys' l' h' tk' E' hlo' hhi' hI' hC' hx' F' N' off' ne' => ?_) ?_ ?_); (all_goals (try ((show KPfMark → _); intro hMark'))); kcf_last)))
  (k_with "og int" => (refine og_int (hun (by assumption)) ?_ ?_; (rw [Str.length_append, Str.length_append]; show 1 + _ + _ ≤ _; omega); intro _ _))
  refine wpAny_call ?_
  k_extra "og enter cells"
  k_steps
  · exact retR_l hret (rd_1 hp.1 (by assumption)) (by assumption) (by assumption) (by k_extra "og sub") (by k_extra "og lt")
  · exact retR_l hret (rd_2 (fun h => absurd h.2 (by assumption)) (by assumption)) (by assumption) (by assumption) (by k_extra "og sub") (by k_extra "og lt")
  · exact retR_r hret (rd_3 (fun h => absurd h.2 (by assumption)) (by assumption) (by assumption) (by assumption)) (by assumption) (by assumption) (by k_extra "og sub") (by k_extra "og lt") (by k_extra "og lt") (by k_extra "og lt")
  · exact retR_r hret (rd_4 (fun h => absurd h.2 (by assumption)) (by assumption) (by assumption) (by assumption)) (by assumption) (by assumption) (by k_extra "og sub") (by k_extra "og lt") (by k_extra "og lt") (by k_extra "og lt")
  · exact retR_l hret (rd_5 (fun h => absurd h.2 (by assumption)) (by assumption) (by assumption)) (by assumption) (by assumption) (by k_extra "og sub") (by k_extra "og lt")
set_option maxRecDepth 100000 in
set_option maxHeartbeats 2000000 in
theorem c_readM (w : World) (x tl : Str) (tx : Tok) (b pt ui : Int) (hne : (x != Str.ofString "") = true) (hb : ((Txt.lstripChars (Txt.slice x none (some 1)) (Str.ofString "0123456789. x")).length : Int) = b) (hb1 : 0 ≤ b ∧ b ≤ 1)
    (htl : Txt.slice x (some b) none = tl) (hpt : Txt.find tl (Str.ofString ".") = pt) (hl : x.length ≤ 40) (hl2 : tl.length ≤ 40) (hp : pt < 0)
    (hun : decide (odds tl pt = []) = true → PySem.intText? (Str.ofString "0" ++ tl ++ Str.ofString "") = some ui) :
    Con w 1 124 [.str x tx] (fun h₀ L m news s Q => RetR h₀ L m news s Q (rd x tl pt b ui 0)) := by
  unfold Con
  intro prog mean mg mb dp un gd cn cs a ccd cl outer A₀ base h₀ L m news s Q E B F X N T hk hd hu hret
  (k_with "og comp" => (k_dflt (refine LCt.CompSrcT.range (by rfl) (by k_asm) (by k_asm) (by assumption) (by exact small_one (by omega) (by omega) (by omega) (by omega)) (by exact rangeSize_nat _ _) (by rw [PySem.sizeLine_eq]; omega) ?_; intro g'; (refine' kci_range (oddG tl pt) (fun k' t' I' oI' C' oC' D' m' ys' l' h' tk' E' hlo' hhi' hI' hC' hx' F' N' off' ne' => ?_) ?_ ?_); (all_goals (try ((show KPfMark → _); intro hMark'))); kcf_last)))
  (k_with "og int" => (refine og_int (hun (by assumption)) ?_ ?_; (rw [Str.length_append, Str.length_append]; show 1 + _ + 0 ≤ _; omega); intro _ _))
  refine wpAny_call ?_
  k_extra "og enter cells"
  k_steps
  · exact retR_l hret (rd_2 (fun h => by omega) (by assumption)) (by assumption) (by assumption) (by k_extra "og sub") (by k_extra "og lt")
  · exact retR_r hret (rd_3 (fun h => by omega) (by assumption) (by assumption) (by assumption)) (by assumption) (by assumption) (by k_extra "og sub") (by k_extra "og lt") (by k_extra "og lt") (by k_extra "og lt")
  · exact retR_r hret (rd_4 (fun h => by omega) (by assumption) (by assumption) (by assumption)) (by assumption) (by assumption) (by k_extra "og sub") (by k_extra "og lt") (by k_extra "og lt") (by k_extra "og lt")
  · exact retR_l hret (rd_5 (fun h => by omega) (by assumption) (by assumption)) (by assumption) (by assumption) (by k_extra "og sub") (by k_extra "og lt")
set_option maxRecDepth 100000 in
set_option maxHeartbeats 2000000 in
theorem c_read0 (w : World) (tx : Tok) : Con w 1 124 [.str (Str.ofString "") tx] (fun h₀ L m news s Q => RetR h₀ L m news s Q (.inl 0)) := by
  unfold Con
  intro prog mean mg mb dp un gd cn cs a ccd cl outer A₀ base h₀ L m news s Q E B F X N T hk hd hu hret
  have hf : Txt.find (Str.ofString "") (Str.ofString ".") = -1 := by decide +kernel
  have hs : Txt.slice (Str.ofString "") (some 0) none = Str.ofString "" := by decide +kernel
  refine wpAny_call ?_
  k_extra "og enter cells"
  k_steps
  exact retR_l hret rfl (by assumption) (by assumption) (by k_extra "og sub") (by k_extra "og lt")
end Og
/- part OgR -/
namespace Og
/-- every object stays, and keeps its dict -/
noncomputable def Dk (h h' : Heap) : Prop := ∀ b o, h.get? b = some o → ∃ o', h'.get? b = some o' ∧ o'.dict = o.dict
theorem Dk.refl (h : Heap) : Dk h h := fun _ o e => ⟨o, e, rfl⟩
theorem Dk.trans {h₁ h₂ h₃ : Heap} (x : Dk h₁ h₂) (y : Dk h₂ h₃) : Dk h₁ h₃ := fun b o e => by
  obtain ⟨o1, e1, d1⟩ := x b o e
  obtain ⟨o2, e2, d2⟩ := y b o1 e1
  exact ⟨o2, e2, d2.trans d1⟩
theorem Dk.push (h : Heap) (o : Obj) : Dk h (h.push o) := fun _ o' e => ⟨o', Heap.get?_push_of_some o e, rfl⟩
/-- the object's own change keeps its dict and its life -/
noncomputable def CalmF (f : Obj → Obj) : Prop := ∀ o : Obj, (f o).dict = o.dict ∧ (f o).isFreed = o.isFreed
theorem Dk.update (h : Heap) (a : Addr) {f : Obj → Obj} (hf : CalmF f) : Dk h (h.update a f) := fun b o e => by
  by_cases q : a = b
  · subst q
    exact ⟨f o, Heap.get?_update_self f e ((hf o).2.trans (Heap.get?_some_iff.mp e).2), (hf o).1⟩
  · exact ⟨o, (Heap.get?_update_other h f q).trans e, rfl⟩
/-- a tree that calls nothing, and whose every change keeps every dict -/
noncomputable def Calm {α : Type} : Sem α → Prop
  | .pure _ => True
  | .raise _ => True
  | .unsupported _ => True
  | .finish _ => True
  | .rule _ k => Calm (k ())
  | .at _ k => Calm (k ())
  | .load _ _ k => ∀ o, Calm (k o)
  | .update _ _ f k => CalmF f ∧ Calm (k ())
  | .alloc _ k => ∀ a, Calm (k a)
  | .loadIfAlive _ k => ∀ o, Calm (k o)
  | .point _ k => Calm (k ())
  | .register _ _ => True
  | .fresh k => ∀ t, Calm (k t)
  | .ask k => ∀ t, Calm (k t)
  | .choose _ _ _ => False
  | .os _ _ _ => False
  | .call _ _ _ _ _ => False
  | .handled _ k => ∀ t, Calm (k t)
  | .newGen _ _ => False
  | .genState _ _ => False
  | .resume _ _ _ _ => False
  | .yield _ _ _ _ => True
  | .stack k => ∀ t, Calm (k t)
  | .fork _ _ => True
  | .thread _ => False
  | .await _ _ _ _ _ => True
theorem calm_bind {α β : Type} {m : Sem α} {f : α → Sem β} (hm : Calm m) (hf : ∀ a, Calm (f a)) : Calm (m >>= f) := by
  show Calm (m.bind f)
  induction m with
  | pure a => exact hf a
  | raise | unsupported | finish | register | yield | fork | await => exact True.intro
  | rule _ k ih | «at» _ k ih | point _ k ih => exact ih () hm
  | load _ _ k ih | alloc _ k ih | loadIfAlive _ k ih | fresh k ih | ask k ih | handled _ k ih | stack k ih => exact fun o => ih o (hm o)
  | update a p f k ih => exact ⟨hm.1, ih () hm.2⟩
  | choose | os | call | newGen | genState | resume | thread => exact hm.elim
theorem calm_wp {α : Type} {M : Model} {Γ : PySem.Ctx} {t : Sem α} {Q : α → Pos → Shared → Prop} {E : Value → Pos → Shared → Prop} {p : Pos} {s : Shared} {h0 : Heap} (ht : Calm t) (h1 : Dk h0 s.heap) (h : Sem.wp M Γ t Q E p s) :
    Sem.wp M Γ t (fun a p' s' => Q a p' s' ∧ Dk h0 s'.heap) (fun e p' s' => E e p' s' ∧ Dk h0 s'.heap) p s := by
  induction t generalizing p s with
  | pure a => exact ⟨h, h1⟩
  | raise e => exact ⟨h, h1⟩
  | unsupported | finish | register | yield | fork | await => exact h
  | rule _ k ih | «at» _ k ih | point _ k ih => exact ih () ht h1 h
  | load a _ k ih =>
    obtain ⟨o, ho, h⟩ := h
    exact ⟨o, ho, ih o (ht o) h1 h⟩
  | update a p' f k ih => exact ⟨h.1, ih () ht.2 (h1.trans (Dk.update _ _ ht.1)) h.2⟩
  | alloc o k ih => exact ih _ (ht _) (h1.trans (Dk.push _ _)) h
  | loadIfAlive _ k ih | fresh k ih | ask k ih | handled _ k ih | stack k ih => exact ih _ (ht _) h1 h
  | choose | os | call | newGen | genState | resume | thread => exact ht.elim
theorem calm_any {α : Type} {M : Model} {A : Around} {t : Sem α} {Q : α → Shared → Prop} {E : Value → Shared → Prop} {s : Shared} (ht : Calm t) (h : wpAny M A t Q E s) :
    wpAny M A t (fun a s' => Q a s' ∧ Dk s.heap s'.heap) (fun e s' => E e s' ∧ Dk s.heap s'.heap) s :=
  fun Γ p hΓ => calm_wp ht (Dk.refl _) (h Γ p hΓ)
theorem calm_uns {α : Type} {x : String} : Calm (unsupported x : Sem α) := True.intro
theorem calm_pure {α : Type} {x : α} : Calm (pure x : Sem α) := True.intro
theorem calm_ite {α : Type} {c : Prop} [Decidable c] {a b : Sem α} (ha : Calm a) (hb : Calm b) : Calm (if c then a else b) := by split <;> assumption
theorem calm_load {a : Addr} : Calm (load a) := fun _ => True.intro
theorem calmF_fields (f : Array Value → Array Value) : CalmF (Obj.mapFields f) := fun o => by
  obtain ⟨c, d, dt, sl⟩ := o
  cases dt <;> exact ⟨rfl, rfl⟩
theorem calmF_slots (f : Obj → Array (Option Value)) : CalmF (fun o => { o with slots := f o }) := fun o => by
  obtain ⟨c, d, dt, sl⟩ := o
  cases dt <;> exact ⟨rfl, rfl⟩
theorem calm_update {a : Addr} {f : Obj → Obj} (h : CalmF f) : Calm (update a f) := ⟨h, True.intro⟩
theorem calm_fieldsOf (v : Value) : Calm (fieldsOf v) := by
  unfold fieldsOf
  split
  · refine calm_bind calm_load fun o => ?_
    split
    · exact calm_pure
    · exact calm_uns
  · exact calm_uns
theorem calm_field (v : Value) (i : Nat) : Calm (field v i) := by
  unfold field
  refine calm_bind (calm_fieldsOf v) fun o => ?_
  split
  · exact calm_pure
  · exact calm_uns
theorem calm_setField (v : Value) (i : Nat) (x : Value) : Calm (setField v i x) := by
  unfold setField
  split
  · unfold updateField
    refine calm_bind calm_load fun o => ?_
    split
    · exact calm_ite (calm_update (calmF_fields _)) calm_uns
    · exact calm_uns
  · exact calm_uns
theorem calm_setFlight (e : Value) (f : Option Addr) : Calm (setFlight e f) := by
  unfold setFlight
  refine calm_bind (calm_field _ _) fun tb => ?_
  exact calm_ite (calm_setField _ _ _) calm_pure
theorem calm_stack : Calm stack := fun _ => True.intro
theorem calm_frameEnvs : Calm frameEnvs := calm_bind calm_stack fun _ => calm_pure
theorem calm_under : Calm underTheClaimsCaller := calm_bind calm_stack fun _ => calm_pure
theorem calm_behind (env : Env) (outer : List Env) : Calm (behindIsImport env outer) := by
  unfold behindIsImport
  refine calm_ite calm_pure (calm_ite calm_pure (calm_bind (calm_field _ _) fun _ => calm_pure))
theorem calm_keptBack (env : Env) (i : Bool) (l : List Env) : Calm (keptBack env i l) := by
  unfold keptBack
  split
  · exact calm_ite calm_pure (calm_bind calm_under fun _ => calm_pure)
  · exact calm_pure
theorem calm_ready : ∀ l : List Env, Calm (readyFrames l)
  | [] => by unfold readyFrames; exact calm_pure
  | env :: outer => by
    unfold readyFrames
    split
    · refine calm_bind calm_load fun o => calm_ite calm_pure ?_
      refine calm_bind (calm_behind _ _) fun _ => calm_bind (calm_keptBack _ _ _) fun _ => calm_bind (calm_update (calmF_slots _)) fun _ => calm_ready outer
    · exact calm_uns
theorem calm_frameOf (env : Env) : Calm (PySem.frameOf env) := by
  unfold PySem.frameOf
  refine calm_bind calm_frameEnvs fun l => ?_
  refine calm_bind ?_ fun x => ?_
  · unfold frameObject
    split
    · exact calm_pure
    · exact calm_bind (calm_ready _) fun _ => calm_pure
  · split
    · exact calm_pure
    · exact calm_uns
theorem calm_place (f : Addr) (b : Bool) : Calm (entryPlaceOf f b) := by
  unfold entryPlaceOf
  refine calm_bind calm_stack fun l => ?_
  split <;> exact calm_pure
theorem calm_newEntry (a b c d e : Value) (p : List Value) : Calm (EntryCells.newEntry a b c d e p) := by
  unfold EntryCells.newEntry newFields newObj
  dsimp only
  unfold newObjAsIs
  split
  all_goals exact calm_ite (calm_bind calm_uns fun _ => fun _ => True.intro) (fun _ => True.intro)
theorem calm_noteFrame (e : Value) (env : Env) : Calm (noteFrame e env) := by
  unfold noteFrame
  split
  · refine calm_bind (calm_field _ _) fun head => calm_ite (calm_bind (calm_field _ _) fun _ => calm_ite calm_pure (calm_bind (calm_setField _ _ _) fun _ => ?_)) ?_
    all_goals exact calm_bind (calm_frameOf _) fun _ => calm_bind (calm_place _ _) fun _ => calm_bind (calm_newEntry _ _ _ _ _ _) fun _ => calm_setField _ _ _
  · exact calm_uns
theorem calm_leaving (e : Value) (env : Env) : Calm (leaving env e) := by
  unfold leaving
  exact calm_bind (calm_noteFrame _ _) fun _ => calm_setFlight _ _
end Og
/- part OgR2 -/
namespace Og
/-- the fault as its class's call leaves it -/
noncomputable abbrev faultO (d a1 : Addr) : Obj := { cls := .ref 60, dict := some d, data := .fields #[.ref a1, .none, .none, .none, .bool false, .none] }
/-- its dict: an entry of the name at holds T -/
noncomputable def AtT (T : Addr) (od : Obj) : Prop := ∃ h1 h2 t1 t2 v, od = { cls := .type "dict", data := .dict #[⟨h1, .str (Str.ofString "what") t1, v⟩, ⟨h2, .str (Str.ofString "at") t2, .ref T⟩] 2 }
/-- the fault under way, its dict known -/
noncomputable def FlyD (base G : Heap) (l : List Env) (e d T : Addr) (od : Obj) (news : List (Addr × Obj)) (h : Heap) : Prop :=
  ∃ B a1, base.StaysIn B ∧ (∀ b o, G.get? b = some o → b ∉ l.filterMap (·.frame) → B.get? b = some o) ∧ (∀ q ∈ (d, od) :: news, B.get? q.1 = some q.2 ∧ G.get? q.1 = none ∧ base.get? q.1 = none) ∧
    Heap.FlyingW B l e (.ref 60) (.ref a1) h ∧ AtT T od ∧ ∃ o, h.get? e = some o ∧ o.dict = some d
section
variable {M : Model} {A : Around} {E : Value → Shared → Prop} {s' : Shared} {base g h : Heap} {outer : List Env} {L a e d a1 T : Addr} {m : Str → Option Value} {name : Str} {scope : Scope} {cd : Value} {Q : Unit → Shared → Prop} {news : List (Addr × Obj)} {od : Obj}
theorem leave_fault (K : Below A base outer g) (F : Fr g L h m) (N : News g L h news) (kp : ∀ b o, h.get? b = some o → s'.heap.get? b = some o) (ne : h.get? e = none) (nd : h.get? d = none) (hed : e ≠ d)
    (he : s'.heap.get? e = some (faultO d a1)) (hd : s'.heap.get? d = some od) (hat : AtT T od)
    (hQ : ∀ h', FlyD base g outer e d T od news h' → g.UpToSlots h' → Q () { s' with heap := h' }) (hk : scope.kind = .function := by rfl) :
    wpAny M (A.deeper (envOf name scope L a cd)) (leaving (envOf name scope L a cd) (.ref e)) Q E s' := by
  have F' : Fr g L s'.heap m := F.of_stays (fun b o q => kp b o (F.keep b o q)) (Heap.UpToSlots.of_keeps kp)
  have K' := K.push (name := name) (a := a) (cd := cd) F' hk
  have K₀ := K.push (name := name) (a := a) (cd := cd) F hk
  let fr := (envOf name scope L a cd :: outer).filterMap (·.frame)
  have hin : ∀ env ∈ (envOf name scope L a cd :: outer), ∀ b, env.frame = some b → b ∈ e :: fr := fun env he b hb => .tail _ (List.mem_filterMap.mpr ⟨env, he, hb⟩)
  have inFr : ∀ b, b ∈ fr → ∃ o, h.get? b = some o := fun b hb => by
    obtain ⟨_, o, ho, _⟩ := K₀.frames.mem hb
    exact ⟨o, ho⟩
  have stay : ∀ b o, h.get? b = some o → b ∉ fr → (hideAll s'.heap (e :: fr)).get? b = some o := fun b o q nm => hideAll_get _ (kp b o q) fun hm => by
    rcases List.mem_cons.mp hm with z | z
    · rw [z, ne] at q; cases q
    · exact nm z
  have stb : base.StaysIn (hideAll s'.heap (e :: fr)) := fun b o q => stay b o (K₀.stays b o q) fun hm => by
    rw [(K₀.frames.mem hm).1] at q; cases q
  have gL : g.get? L = none := kts_self F
  have sg : ∀ b o, g.get? b = some o → b ∉ outer.filterMap (·.frame) → (hideAll s'.heap (e :: fr)).get? b = some o := fun b o q nm => stay b o (F.keep b o q) fun hm => by
    rcases kts_mem hm with z | z
    · rw [z, gL] at q; cases q
    · exact nm z
  have hl : ∀ q ∈ (d, od) :: news, (hideAll s'.heap (e :: fr)).get? q.1 = some q.2 ∧ g.get? q.1 = none ∧ base.get? q.1 = none := fun q hq => by
    rcases List.mem_cons.mp hq with rfl | hq
    · refine ⟨hideAll_get _ hd fun hm => ?_, kts_none F.keep nd, kts_none K.stays (kts_none F.keep nd)⟩
      rcases List.mem_cons.mp hm with z | z
      · exact hed z.symm
      · obtain ⟨o, ho⟩ := inFr _ z
        rw [nd] at ho; cases ho
    · refine ⟨stay _ _ (N q hq).1 fun hm => ?_, (N q hq).2.2, kts_none K.stays (N q hq).2.2⟩
      rcases kts_mem hm with z | z
      · exact (N q hq).2.1 z
      · obtain ⟨o, ho, _⟩ := (K.frames.mem z).2
        rw [(N q hq).2.2] at ho; cases ho
  have main := calm_any (calm_leaving (.ref e) (envOf name scope L a cd)) (wpAny_leaving_firstW (M := M) (E := E) (s := s') (base := hideAll s'.heap (e :: fr)) (a0 := .ref a1) (Q := fun _ s'' => Heap.LeftW (hideAll s'.heap (e :: fr)) (envOf name scope L a cd :: outer) e (.ref 60) (.ref a1) s'.heap s''.heap ∧ s'' = { s' with heap := s''.heap })
    K'.stack (funFrames_hide K'.frames hin) rfl he (fun b o q => of_hideAll _ q) (hideAll_none _ (.head _)) rfl rfl rfl fun h' hL => ⟨hL, rfl⟩)
  refine wpAny_mono main (fun _ s'' hs => ?_) fun _ _ z => z.1
  obtain ⟨⟨⟨k1, ⟨_, _, k2⟩, k3, k4⟩, e1⟩, hD⟩ := hs
  rw [e1]
  obtain ⟨o', ho', hd'⟩ := hD e _ he
  exact hQ _ ⟨_, a1, stb, sg, hl, ⟨k1, hideAll_none _ (.head _), k2, k3⟩, hat, o', ho', hd'⟩ (((Heap.UpToSlots.of_keeps F.keep).trans (Heap.UpToSlots.of_keeps kp)).trans k4)
end
noncomputable def Dct (h : Heap) (e d : Addr) : Prop := ∃ o, h.get? e = some o ∧ o.dict = some d
theorem Dct.of {h h' : Heap} {e d : Addr} (x : Dct h e d) (k : Dk h h') : Dct h' e d := by
  obtain ⟨o, ho, hd⟩ := x
  obtain ⟨o', ho', hd'⟩ := k e o ho
  exact ⟨o', ho', hd'.trans hd⟩
section
variable {M : Model} {A : Around} {E : Value → Shared → Prop} {s : Shared} {base : Heap} {env : Env} {l outer : List Env} {L e d : Addr} {cls a0 : Value} {Q : Unit → Shared → Prop}
theorem looks_D (hfr : A.frames = some (env :: outer)) (hf : env.frame = some L) (hfl : Heap.FlyingW base (env :: outer) e cls a0 s.heap) (hd : Dct s.heap e d)
    (hQ : ∀ h', Heap.HeldW base (env :: outer) e cls a0 L h' → s.heap.UpToSlots h' → Dct h' e d → Q () { s with heap := h' }) : wpAny M A (noteFrame (.ref e) env) Q E s := by
  refine wpAny_mono (calm_any (calm_noteFrame _ _) (wpAny_looks_onW (Q := fun _ s' => (Heap.HeldW base (env :: outer) e cls a0 L s'.heap ∧ s.heap.UpToSlots s'.heap) ∧ s' = { s with heap := s'.heap }) hfr hf hfl fun h' a b => ⟨⟨a, b⟩, rfl⟩)) (fun _ s' hs => ?_) fun _ _ z => z.1
  obtain ⟨⟨⟨a, b⟩, c⟩, k⟩ := hs
  rw [c]
  exact hQ _ a b (hd.of k)
theorem lands_D (hh : Heap.HeldW base l e cls a0 L s.heap) (hd : Dct s.heap e d)
    (hQ : ∀ h', Heap.FlyingW base l e cls a0 h' → s.heap.UpToSlots h' → Dct h' e d → Q () { s with heap := h' }) : wpAny M A (setFlight (.ref e) none) Q E s := by
  refine wpAny_mono (calm_any (calm_setFlight _ _) (wpAny_landsW (Q := fun _ s' => (Heap.FlyingW base l e cls a0 s'.heap ∧ s.heap.UpToSlots s'.heap) ∧ s' = { s with heap := s'.heap }) hh fun h' a b => ⟨⟨a, b⟩, rfl⟩)) (fun _ s' hs => ?_) fun _ _ z => z.1
  obtain ⟨⟨⟨a, b⟩, c⟩, k⟩ := hs
  rw [c]
  exact hQ _ a b (hd.of k)
theorem again_D (hh : Heap.FlyingW base l e cls a0 s.heap) (hd : Dct s.heap e d)
    (hQ : ∀ h', Heap.FlyingW base l e cls a0 h' → s.heap.UpToSlots h' → Dct h' e d → Q () { s with heap := h' }) : wpAny M A (setFlight (.ref e) none) Q E s := by
  refine wpAny_mono (calm_any (calm_setFlight _ _) (lands_againW (Q := fun _ s' => (Heap.FlyingW base l e cls a0 s'.heap ∧ s.heap.UpToSlots s'.heap) ∧ s' = { s with heap := s'.heap }) hh fun h' a b => ⟨⟨a, b⟩, rfl⟩)) (fun _ s' hs => ?_) fun _ _ z => z.1
  obtain ⟨⟨⟨a, b⟩, c⟩, k⟩ := hs
  rw [c]
  exact hQ _ a b (hd.of k)
end
section
variable {prog : Program} {w : World} {A₀ : Around} {E : Value → Shared → Prop} {s' : Shared} {base g g₀ G : Heap} {outer : List Env} {L a e d T : Addr} {m : Str → Option Value} {name : Str} {scope : Scope} {cd : Value}
  {n : Str} {b₀ : Stmt} {suite : List Stmt} {pos np : Pos} {rest : List ExceptHandler} {Q : Flow → Shared → Prop} {news : List (Addr × Obj)} {od : Obj} {KF : Frag}
  {p : Program} {loose : List Str} {mean : ExcName → Option Value} {mg mb : Str → Option Value} {x : Str}
/-- the clause of the fault's own class takes it, its dict known -/
theorem caught_fault (R : FlyD base G (envOf name scope L a cd :: outer) e d T od news s'.heap) (F : Fr g L G m) (K : Below A₀ base outer g) (hsm : G.UpToSlots s'.heap) (XB : KF.In base) (TB : Top p loose mean mg mb base)
    (D : KtsDicts (outer.filterMap (·.frame)) g) (T0 : KtsTurn (outer.filterMap (·.frame)) g₀ g)
    (ex : nsIn KF mainGlobals x = some (some (.ref 60))) (q : ktsIn KF 60 "BaseException" = true)
    (k : ∀ h' g' oe tk, KtsTurn (outer.filterMap (·.frame)) g₀ g' → Fr g' L h' (fun y => if y = n then some (.ref e) else m y) → News g' L h' ((e, oe) :: (d, od) :: news) → oe.dict = some d → oe.cls = .ref 60 → (∃ vs, oe.data = .fields vs) → AtT T od →
      Below A₀ base outer g' → KF.In g' → Top p loose mean mg mb g' → KtsDicts (outer.filterMap (·.frame)) g' →
      wpAny (model prog w) ((A₀.deeper (envOf name scope L a cd)).mark (some (.ref e))) (execs (b₀ :: suite) (envOf name scope L a cd))
        (fun f s₄ => wpAny (model prog w) (A₀.deeper (envOf name scope L a cd)) (do bindName (envOf name scope L a cd) n .none; unbindBehindTheSuite (envOf name scope L a cd) n pos) (fun _ s₅ => Q f s₅) E s₄)
        (AsSuiteRaised (model prog w) ((A₀.deeper (envOf name scope L a cd)).mark (some (.ref e))) (envOf name scope L a cd) n pos (notedBy (model prog w) ((A₀.deeper (envOf name scope L a cd)).mark (some (.ref e))) (envOf name scope L a cd) (cameBackBy (model prog w) (A₀.deeper (envOf name scope L a cd)) (envOf name scope L a cd) E)))
        { s' with heap := h', toks := tk })
    (hk : scope.kind = .function := by rfl) (hlo : (envOf name scope L a cd).kindOf n = some .local := by rfl) (hx : (envOf name scope L a cd).kindOf x = some .globalImplicit := by rfl) (hd : (x == ("__debug__" : Str)) = false := by decide) :
    wpAny (model prog w) (A₀.deeper (envOf name scope L a cd)) (noteFrame (.ref e) (envOf name scope L a cd))
      (fun _ s₂ => wpAny (model prog w) (A₀.deeper (envOf name scope L a cd)) (setFlight (.ref e) none) (fun _ s₃ =>
        wpAny (model prog w) (A₀.deeper (envOf name scope L a cd)) (handleBy (.ref e) (envOf name scope L a cd) (.ExceptHandler (some (.Name x np)) (some n) (b₀ :: suite) pos :: rest)) Q E s₃) E s₂) E s' := by
  obtain ⟨B, a1, hB, hBG, hl, hfl, hat, hdct⟩ := R
  have hL : B.get? L = none := by
    obtain ⟨_, ⟨L', _, hf, hn', _⟩, _⟩ := hfl.2.2.1
    obtain rfl : L = L' := Option.some.inj hf
    exact hn'
  refine looks_D (Around.frames_deeper K.stack) rfl hfl hdct fun h₄ held₄ sm₄ d₄ => ?_
  refine lands_D held₄ d₄ fun h₅ held₅ sm₅ d₅ => ?_
  have sm₅' := hsm.trans (sm₄.trans sm₅)
  obtain ⟨g₅, T₅, F₅, K₅⟩ := kts_ground K F hBG held₅.1 sm₅'
  have X₅ : KF.In g₅ := XB.keeps K₅.stays
  obtain ⟨ob, hob, hobc⟩ := held₅.there
  obtain ⟨nm, q', N, bs, bm, hdc, sn, sub, ab, col, dd, k0, k1, k2, k3, k5, newId, hC, hbase, _⟩ := kts_cls X₅ q
  refine wpAny_handleBy_cons (codeAny_handlers_test (name_K F₅ X₅ (topRead_of (TB.keeps K₅.stays)) ex ?_ hk hx hd)) (by intro q; cases q)
  refine wpAny_excMatches_sub_self (F₅.keep _ _ hC) hob hobc hbase (codeAny_handlers_suite_as ?_)
  refine again_D held₅ d₅ fun h₆ fl₆ sm₆ d₆ => ?_
  obtain ⟨g₆, T₆, F₆, K₆⟩ := kts_ground K F hBG fl₆.1 (sm₅'.trans sm₆)
  obtain ⟨oe, ws, hoe, hoec, hoed, _⟩ := fl₆.first
  obtain ⟨oe', hoe', hdd⟩ := d₆
  obtain rfl : oe = oe' := Option.some.inj (hoe.symm.trans hoe')
  have ne₆ : g₆.get? e = none := T₆.none_ _ (kts_fresh F hBG fl₆.2.1 fun o ho hm => by
    obtain ⟨_, o', ho', hd'⟩ := K.frames.mem hm
    obtain rfl : o = o' := Option.some.inj (ho.symm.trans ho')
    obtain ⟨sl, hs⟩ := (sm₅'.trans sm₆) _ _ (F.keep _ _ ho) hd'
    obtain rfl : oe = _ := Option.some.inj (hoe.symm.trans hs)
    exact hd' _ hoed)
  have Nl : News g₆ L h₆ ((d, od) :: news) := fun q hq => ⟨fl₆.1 _ _ (hl q hq).1, (fun z => by have := (hl q hq).1; rw [z, hL] at this; cases this), T₆.none_ _ (kts_none F.keep (hl q hq).2.1)⟩
  refine stN F₆ (News.more F₆ Nl hoe (fun es n q => by rw [hoed] at q; cases q) ne₆) (fun h₇ F₇ N₇ => ?_) hk hlo
  exact k h₇ g₆ oe _ (T0.trans T₆) F₇ N₇ hdd hoec ⟨ws, hoed⟩ hat K₆ (XB.keeps K₆.stays) (TB.keeps K₆.stays) (D.turn T₆)
end
end Og
/- part OgX -/
namespace Og
open PySem.W.X
noncomputable abbrev RetF (s : Shared) (T : Addr) (Q : Value → Shared → Prop) : Prop :=
  ∀ (e d a1 : Addr) (od o1 : Obj) (h' : Heap) (tk' : Nat), (∀ b o, s.heap.get? b = some o → h'.get? b = some o) → s.heap.get? e = none → s.heap.get? d = none → s.heap.get? a1 = none → e ≠ d → e ≠ a1 → d ≠ a1 →
    h'.get? e = some (faultO d a1) → h'.get? d = some od → h'.get? a1 = some o1 → AtT T od → Q (.ref e) { s with heap := h', toks := tk' }
theorem fault_end {s : Shared} {T : Addr} {Q : Value → Shared → Prop} (hq : RetF s T Q) {d a1 n1 e a0 : Addr} {od o1 on o0 : Obj} {h : Heap} {tk : Nat} (D : Mem s.heap h [] [(d, od), (a1, o1), (n1, on), (e, faultO d a1), (a0, o0)]) (hod : AtT T od) : Q (.ref e) { s with heap := h, toks := tk } := by
  have hd := D.nw (d, od) (.head _)
  have ha := D.nw (a1, o1) (.tail _ (.head _))
  have he := D.nw (e, faultO d a1) (.tail _ (.tail _ (.tail _ (.head _))))
  exact hq e d a1 od o1 h tk (fun b o hb => D.keep b o hb (by simp [away])) he.2 hd.2 ha.2 (D.ne 0 3 _ _ _ _ rfl rfl rfl).symm (D.ne 1 3 _ _ _ _ rfl rfl rfl).symm (D.ne 0 1 _ _ _ _ rfl rfl rfl) he.1 hd.1 ha.1 hod
local macro_rules | `(tactic| x_close) => `(tactic| exact fault_end (by assumption) (by assumption) ⟨_, _, _, _, _, rfl⟩)
set_option maxRecDepth 100000 in
set_option maxHeartbeats 0 in
theorem mk_fault (prog : Program) (w : World) (fr : List Env) (gd : Option (List Code)) (s : Shared) (X : (Og.KX w.params).In s.heap) (msg : Str) (t : Tok) (T : Addr) (Q E : Value → Shared → Prop) (hq : RetF s T Q) :
    wpAny (model prog w) { handled := none, depth := 600, frames := some fr, guards := gd, units := 1000 } (call (.ref 60) [.str msg t, .ref T]) Q E s := by
  x_run

theorem more_any {α : Type} {M : Model} {A A' : Around} {t : Sem α} {Q : α → Shared → Prop} {E : Value → Shared → Prop} {s : Shared} (h : wpAny M A' t Q E s) (h1 : A.handled = A'.handled) (h2 : A.depth ≤ A'.depth) (h3 : A.frames = A'.frames) (h4 : A.guards = A'.guards) (h5 : A.units ≤ A'.units) :
    wpAny M A t Q E s := fun Γ p hΓ => h Γ p ⟨hΓ.1.trans h1, Nat.le_trans hΓ.2.1 h2, fun l hl => hΓ.2.2.1 l (h3.trans hl), fun g hg => hΓ.2.2.2.1 g (h4.trans hg), Nat.le_trans hΓ.2.2.2.2 h5⟩
theorem cls60 : ∀ w : World, ktsIn (Og.KX w.params) 60 "BaseException" = true := by
  intro w
  kts_isx
end Og
/- part OgR3 -/
namespace Og
theorem nsTF (w : World) : nsIn (Og.KX w.params) mainGlobals (Str.ofString "TokenFault") = some (some (.ref 60)) := by k_is
section
variable {prog : Program} {w : World} {A : Around} {E : Value → Shared → Prop} {s : Shared} {env : Env} {Q : Flow → Shared → Prop}
theorem raise_stmt {x : Sem Value} (hh : A.handled = none)
    (h : wpAny (model prog w) A x (fun v s₁ => ∃ e d a1, v = .ref e ∧ (Og.KX w.params).In s₁.heap ∧ s₁.heap.get? e = some (faultO d a1) ∧ E (.ref e) s₁) E s) :
    wpAny (model prog w) A (raiseStmt env (some x) none) Q E s := by
  unfold raiseStmt
  refine wpAny_bind (wpAny_mono h (fun v s₁ h₁ => ?_) fun _ _ x => x)
  obtain ⟨e, d, a1, rfl, hX, he, hE⟩ := h₁
  obtain ⟨nm, q', N, bs, bm, hdc, sn, sub, ab, col, dd, k0, k1, k2, k3, k5, newId, hC, hbase, _⟩ := kts_cls hX (cls60 w)
  have hcB : (Value.ref 60 :: bm).contains (.type "BaseException") = true := by rw [List.contains_cons, hbase, Bool.or_true]
  obtain ⟨hp, g, d', tk, os⟩ := s₁
  repeat (first | with_reducible refine wpAny_loadPart_at he ?_ | with_reducible refine wpAny_loadPart_at hC ?_ | (with_reducible refine wpAny_isSubtype_exc hC ?_; rw [hcB]) | wp_step)
  exact wpAny_raiseNew_none hh hE
end
section
variable {prog : Program} {w : World} {A : Around} {E : Value → Shared → Prop} {s : Shared} {g : Heap} {L a : Addr} {m mg mb : Str → Option Value} {cn : Str} {cs : Scope} {ccd : Value} {p : Program} {loose : List Str} {Q : Flow → Shared → Prop} {fr : List Env}
/-- the two arguments of the fault stand; what its class's call then leaves, the rest takes -/
noncomputable def FaultEnd (g : Heap) (E : Value → Shared → Prop) (vs : List Value) (s : Shared) : Prop := ∃ msg t T, vs = [.str msg t, .ref T] ∧ (∀ b o, g.get? b = some o → s.heap.get? b = some o) ∧ RetF s T E
theorem raise_fault {np cpos pos : Pos} {e₀ : Expr} {rest : List Expr} (F : Fr g L s.heap m) (X : (Og.KX w.params).In g) (T : TopRead p loose mg mb g) (hh : A.handled = none) (hf : A.frames = some fr) (hd : A.depth ≤ 600) (hu : A.units ≤ 1000)
    (h : wpAny (model prog w) A (spliced (backTo cpos (starEach (e₀ :: rest) (envOf cn cs L a ccd)))) (fun vs s₂ => FaultEnd g E vs s₂) E s)
    (he : starEach (e₀ :: rest) (envOf cn cs L a ccd) = (false, eval e₀ (envOf cn cs L a ccd)) :: starEach rest (envOf cn cs L a ccd) := by rfl)
    (hp : (backTo cpos (starEach rest (envOf cn cs L a ccd))).any (·.1) = false := by rfl)
    (hk : cs.kind = .function := by rfl) (hx : (envOf cn cs L a ccd).kindOf (Str.ofString "TokenFault") = some .globalImplicit := by rfl) :
    wpAny (model prog w) A (exec (.Raise (some (.Call (.Name (Str.ofString "TokenFault") np) (e₀ :: rest) [] cpos)) none pos) (envOf cn cs L a ccd)) Q E s := by
  rw [arm_exec_Raise]
  refine wpAny_bind (wpAny_standAt (raise_stmt hh ?_))
  refine wpAny_bind (wpAny_mono (wpAny_Call_ofName (name_K F X T (nsTF w) ?_ hk hx)) (fun v s₃ h₃ => wpAny_bind (wpAny_standAt (wpAny_pure h₃))) fun _ _ x => x)
  have hp' : (backTo cpos (starEach (e₀ :: rest) (envOf cn cs L a ccd))).any (·.1) = false := by
    rw [he]
    show (false || (backTo cpos (starEach rest (envOf cn cs L a ccd))).any (·.1)) = false
    rw [hp]; rfl
  have h' : wpAny (model prog w) A (evalArgs (.ref 60) true (backTo cpos (starEach (e₀ :: rest) (envOf cn cs L a ccd))) []) (fun r s₂ => FaultEnd g E r.pos s₂ ∧ r.kw = []) E s := by
    rw [he] at h ⊢
    exact Calls.evalArgs_plain (wpAny_mono h (fun vs s₂ h₂ => ⟨h₂, rfl⟩) fun _ _ y => y)
  unfold callWith
  refine wpAny_bind (wpAny_holding (wpAny_mono h' (fun r s₂ h₂ => wpAny_bind (wpAny_standAt ?_)) fun _ _ x => x))
  obtain ⟨rp, rk⟩ := r
  obtain ⟨⟨msg, t, T', h1, kp, hR⟩, h2⟩ := h₂
  obtain rfl : rp = _ := h1
  obtain rfl : rk = [] := h2
  have X₂ : (Og.KX w.params).In s₂.heap := X.keeps kp
  obtain ⟨nm, q', N, bs, bm, hdc, sn, sub, ab, col, dd, k0, k1, k2, k3, k5, newId, hC, hbase, _⟩ := kts_cls X₂ (cls60 w)
  obtain ⟨h₀, g₀, d₀, tk, os⟩ := s₂
  rw [hp']
  refine wpAny_bind (wpAny_keeperOf_exc hC ?_)
  refine wpAny_bind (wpAny_mono (more_any (A' := { handled := none, depth := 600, frames := some fr, guards := A.guards, units := 1000 }) (mk_fault prog w fr A.guards ⟨h₀, g₀, d₀, tk, os⟩ X₂ msg t T'
    (fun v s₃ => ∃ e d a1, v = .ref e ∧ (Og.KX w.params).In s₃.heap ∧ s₃.heap.get? e = some (faultO d a1) ∧ E (.ref e) s₃) E ?_) hh hd hf rfl hu) (fun v s₃ h₃ => wpAny_bind (wpAny_holding (wpAny_point (wpAny_pure h₃)))) fun _ _ x => x)
  exact fun e d a1 od o1 h' tk' b1 b2 b3 b4 b5 b6 b7 b8 b9 b10 b11 => ⟨e, d, a1, rfl, X₂.keeps b1, b8, hR e d a1 od o1 h' tk' b1 b2 b3 b4 b5 b6 b7 b8 b9 b10 b11⟩
end
end Og
/- part OgJ -/
namespace Og
theorem rowsJ : True := by
  k_with_none
  (k_with "og enter" => (k_dflt ((refine code_def (by k_asm) (by k_asm) (by k_asm) (by k_asm) (by k_asm) (by exact rfl) (by exact rfl) (by assumption) (by k_is) (by k_is) (by ktr_room) (by first | exact BindsTo.of_eq rfl | exact binds_K (by k_in) rfl (by k_is) rfl rfl rfl) (by exact locs rfl) ?_ (by exact rfl) (by exact rfl) (by exact rfl) (by decide)); k_whole; intro g' L' h' FG' F' N' B' X' T'; (try dsimp only); (try k_lift B'); (try k_fold))))
  (k_with "og sub" => (intro p hp; repeat (first | exact hp | refine List.Mem.tail _ ?_)))
  (k_with "og: exec Raise some none" => (k_dflt ((refine raise_fault (by k_asm) (by k_asm) (by k_asm) (by exact rfl) (by exact rfl) (by (dsimp only [Around.deeper, ktrTop, Around.in1, Around.mark]; omega)) (by (dsimp only [Around.deeper, ktrTop, Around.in1, Around.mark]; omega)) ?_ (by exact rfl) (by exact rfl) (by exact rfl) (by exact rfl)); k_whole)))
  (k_with "og call" => (k_dflt ((with_reducible show wpAny _ _ (call (Value.ref 77) _) _ _ _); (refine con_use (c_worth _ _ _ (by k_extra "og figs") (by (rw [Str.length_append]; omega))) (by k_asm) (by k_asm) (by k_asm) (by k_asm) (by k_asm) (by rfl) (by ((try dsimp only [ktrTop, Around.deeper, Around.in1, Around.mark]); show _ < 1000; first | decide | omega)) (by ((try dsimp only [ktrTop, Around.deeper, Around.in1, Around.mark]); unfold cLine; first | decide | omega)) ?_); k_whole; intro t' h' tk' F' N')))
  (k_with "og call" => (k_dflt ((with_reducible show wpAny _ _ (call (Value.ref 70) _) _ _ _); (refine con_use (c_dec0 _ _ _ _ _ (by omega)) (by k_asm) (by k_asm) (by k_asm) (by k_asm) (by k_asm) (by rfl) (by ((try dsimp only [ktrTop, Around.deeper, Around.in1, Around.mark]); show _ < 1000; first | decide | omega)) (by ((try dsimp only [ktrTop, Around.deeper, Around.in1, Around.mark]); unfold cLine; first | decide | omega)) ?_); k_whole; intro D' t' u' c' h' tk' F' N' l1)))
  exact True.intro
noncomputable abbrev RetE (base h₀ : Heap) (cal : Env) (outer : List Env) (L : Addr) (m : Str → Option Value) (news : List (Addr × Obj)) (s : Shared) (E : Value → Shared → Prop) (k : Int) : Prop :=
  ∀ (G : Heap) (e d T : Addr) (t1 t2 : Tok) (c : Nat) (od : Obj) (h' : Heap) (tk' : Nat), Fr h₀ L G m → FlyD base G (cal :: outer) e d T od ((T, ({ cls := .type "tuple", data := .seq #[.int 0 t1, .int k t2] c } : Obj)) :: news) h' → G.UpToSlots h' → E (.ref e) { s with heap := h', toks := tk' }
noncomputable abbrev RetD (base h₀ : Heap) (cal : Env) (outer : List Env) (L : Addr) (m : Str → Option Value) (news : List (Addr × Obj)) (s : Shared) (Q : Value → Shared → Prop) (E : Value → Shared → Prop) : Int ⊕ (Int × Int) → Prop
  | .inl k => RetE base h₀ cal outer L m news s E k
  | .inr (x, y) => RetP h₀ L m news s Q (dec x y).1 (dec x y).2
/-- what a call of read_decimal does, wherever it stands not too deep -/
noncomputable def ConE (w : World) (f : Addr) (vs : List Value) (r : Int ⊕ (Int × Int)) : Prop :=
  ∀ (prog : Program) (mean : ExcName → Option Value) (mg mb : Str → Option Value) (dp un : Nat) (gd : Option (List Code)) (cn : Str) (cs : Scope) (a : Addr) (ccd : Value) (cl : List (Str × Addr)) (outer : List Env) (A₀ : Around) (base h₀ : Heap) (L : Addr) (m : Str → Option Value) (news : List (Addr × Obj)) (s : Shared) (Q E : Value → Shared → Prop),
    Below A₀ base outer h₀ → Fr h₀ L s.heap m → (Og.KX w.params).In h₀ → News h₀ L s.heap news → Top Og.hd.view_39 lo₀ mean mg mb h₀ → cs.kind = .function → dp ≤ 400 → un ≤ 300 → cl = [] →
    RetD base h₀ (envOf cn cs L a ccd) outer L m news s Q E r →
      wpAny (model prog w) (ktrTop dp un gd cn cs L a ccd cl outer) (call (.ref f) vs) Q E s

theorem con_use {w : World} {sz : Nat} {f : Addr} {vs : List Value} {Post : Heap → Addr → (Str → Option Value) → List (Addr × Obj) → Shared → (Value → Shared → Prop) → Prop} (h : Con w sz f vs Post)
    {prog : Program} {mean : ExcName → Option Value} {mg mb : Str → Option Value} {dp un : Nat} {gd : Option (List Code)} {cn : Str} {cs : Scope} {a : Addr} {ccd : Value} {cl : List (Str × Addr)} {outer : List Env} {A₀ : Around} {base h₀ : Heap} {L : Addr} {m : Str → Option Value} {news : List (Addr × Obj)} {s : Shared} {Q E : Value → Shared → Prop}
    (B : Below A₀ base outer h₀) (F : Fr h₀ L s.heap m) (X : (Og.KX w.params).In h₀) (N : News h₀ L s.heap news) (T : Top Og.hd.view_39 lo₀ mean mg mb h₀) (hk : cs.kind = .function) (hd : dp + sz < recursionLimit) (hu : un + 200 * sz < cLine) (p : Post h₀ L m news s Q) :
    wpAny (model prog w) (ktrTop dp un gd cn cs L a ccd cl outer) (call (.ref f) vs) Q E s := h _ _ _ _ _ _ _ _ _ _ _ _ _ _ _ _ _ _ _ _ _ _ B F X N T hk hd hu p
/-- is the sign at k a figure of ten -/
noncomputable def figB (x : Str) (k : Int) : Bool := !(Builtin.Str.occurrences (Str.ofString "0123456789") (Txt.item x k) 0 (Str.ofString "0123456789").length 1).isEmpty
noncomputable def dotB (tl : Str) : Bool := !(Builtin.Str.occurrences tl (Str.ofString ".") 0 tl.length 1).isEmpty
noncomputable def bgI (x : Str) : Int := if ([Str.ofString "+", Str.ofString "-"].any fun y => y == Txt.slice x none (some 1)) = true then 1 else 0
noncomputable def tlS (x : Str) : Str := Txt.slice x (some (bgI x)) none
noncomputable def ahS (x : Str) : Str := if dotB (tlS x) = true then Txt.slice (tlS x) none (some (Txt.find (tlS x) (Str.ofString "."))) else tlS x
noncomputable def beS (x : Str) : Str := if dotB (tlS x) = true then Txt.slice (tlS x) (some (Txt.find (tlS x) (Str.ofString ".") + 1)) none else Str.ofString ""
noncomputable def okAt (x : Str) (k : Int) : Bool := figB x k || k == bgI x + ((ahS x).length : Int)
/-- the first place of n, from k on, that is not well -/
noncomputable def bad (x : Str) : Nat → Int → Option Int
  | 0, _ => none
  | n + 1, k => if okAt x k = true then bad x n (k + 1) else some k
theorem bad_none {x : Str} : ∀ (n : Nat) (k : Int), (∀ j, k ≤ j → j < k + (n : Int) → okAt x j = true) → bad x n k = none
  | 0, _, _ => rfl
  | n + 1, k, h => by
    rw [bad, if_pos (h k (Int.le_refl _) (by omega))]
    exact bad_none n (k + 1) fun j a b => h j (by omega) (by omega)
theorem bad_some {x : Str} : ∀ (n : Nat) (k : Int) (i : Nat), i < n → okAt x (k + (i : Int)) = false → (∀ j, k ≤ j → j < k + (i : Int) → okAt x j = true) → bad x n k = some (k + (i : Int))
  | 0, _, _, hi, _, _ => absurd hi (Nat.not_lt_zero _)
  | n + 1, k, 0, _, h1, _ => by
    have e : k + ((0 : Nat) : Int) = k := by omega
    rw [e] at h1 ⊢
    rw [bad, if_neg (by rw [h1]; decide)]
  | n + 1, k, i + 1, hi, h1, h2 => by
    rw [bad, if_pos (h2 k (Int.le_refl _) (by omega))]
    have e : k + ((i + 1 : Nat) : Int) = k + 1 + (i : Int) := by omega
    rw [e] at h1 ⊢
    exact bad_some n (k + 1) i (by omega) h1 fun j a b => h2 j (by omega) (by omega)
noncomputable def rdD (x : Str) : Int ⊕ (Int × Int) :=
  if dotB (tlS x) = true ∧ (beS x == Str.ofString "") = true then .inl x.length
  else if (ahS x ++ beS x == Str.ofString "") = true then .inl (bgI x)
  else match bad x ((x.length : Int) - bgI x).toNat (bgI x) with
    | some k => .inl k
    | none => .inr (if (Txt.slice x none (some 1) == Str.ofString "-") = true then -val (KStt.codes (ahS x ++ beS x)) else val (KStt.codes (ahS x ++ beS x)), (beS x).length)
local macro_rules | `(tactic| walk_at "exec Raise some none") => `(tactic| k_extra "og: exec Raise some none")
local macro_rules | `(tactic| walk_at "call ref") => `(tactic| k_extra "og call")
theorem News.mono {g h : Heap} {L : Addr} {q : Addr × Obj} {news rest : List (Addr × Obj)} (N : News g L h (q :: rest)) (hs : ∀ p ∈ news, p ∈ rest) : News g L h (q :: news) := fun p hp => by
  rcases List.mem_cons.mp hp with rfl | hp
  · exact N _ (.head _)
  · exact N _ (.tail _ (hs p hp))
theorem raise_end {M : Model} {A : Around} {E E2 : Value → Shared → Prop} {s s₁ : Shared} {base g h₀ : Heap} {cal : Env} {outer : List Env} {L L' a T : Addr} {m m' : Str → Option Value} {name : Str} {scope : Scope} {cd : Value} {news rest : List (Addr × Obj)} {k : Int} {t1 t2 t : Tok} {c : Nat} {msg : Str}
    (hret : RetE base h₀ cal outer L m news s E k) (B : Below A base (cal :: outer) g) (FG : Fr h₀ L g m) (F : Fr g L' s₁.heap m') (N : News g L' s₁.heap ((T, ({ cls := .type "tuple", data := .seq #[.int 0 t1, .int k t2] c } : Obj)) :: rest)) (hs : ∀ p ∈ news, p ∈ rest)
    (es : ∀ h t, ({ s₁ with heap := h, toks := t } : Shared) = { s with heap := h, toks := t }) (hk : scope.kind = .function := by rfl) :
    FaultEnd g (fun e' s' => wpAny M (A.deeper (envOf name scope L' a cd)) (leaving (envOf name scope L' a cd) e') (fun _ s'' => E e' s'') E2 s') [.str msg t, .ref T] s₁ := by
  refine ⟨_, _, _, rfl, F.keep, ?_⟩
  intro e d a1 od o1 h' tk' b1 b2 b3 b4 b5 b6 b7 b8 b9 b10 b11
  refine leave_fault B F (News.mono N hs) b1 b2 b3 b5 b8 b9 b11 (fun hh fl up => ?_) hk
  have z := hret g e d T t1 t2 c od hh tk' FG fl up
  rw [← es] at z
  exact z
theorem retD_l {base h₀ : Heap} {cal : Env} {outer : List Env} {L : Addr} {m : Str → Option Value} {news : List (Addr × Obj)} {s : Shared} {Q E : Value → Shared → Prop} {r : Int ⊕ (Int × Int)} {k : Int} (h : RetD base h₀ cal outer L m news s Q E r) (e : r = .inl k) : RetE base h₀ cal outer L m news s E k := by subst e; exact h
theorem retD_r {base h₀ : Heap} {cal : Env} {outer : List Env} {L : Addr} {m : Str → Option Value} {news : List (Addr × Obj)} {s : Shared} {Q E : Value → Shared → Prop} {r : Int ⊕ (Int × Int)} {x y : Int} (h : RetD base h₀ cal outer L m news s Q E r) (e : r = .inr (x, y)) : RetP h₀ L m news s Q (dec x y).1 (dec x y).2 := by subst e; exact h
theorem rdD_1 {x : Str} (h1 : dotB (tlS x) = true) (h2 : (beS x == Str.ofString "") = true) : rdD x = .inl x.length := by rw [rdD, if_pos ⟨h1, h2⟩]
theorem rdD_2 {x : Str} (h1 : dotB (tlS x) = false ∨ (beS x == Str.ofString "") = false) (h2 : (ahS x ++ beS x == Str.ofString "") = true) : rdD x = .inl (bgI x) := by
  rw [rdD, if_neg, if_pos h2]
  rintro ⟨a, b⟩
  rcases h1 with h | h
  · rw [h] at a; cases a
  · rw [h] at b; cases b
theorem bg1 {x : Str} (h : ([Str.ofString "+", Str.ofString "-"].any fun y => y == Txt.slice x none (some 1)) = true) : bgI x = 1 ∧ tlS x = Txt.slice x (some 1) none := by
  have e : bgI x = 1 := if_pos h
  exact ⟨e, by rw [tlS, e]⟩
theorem bg0 {x : Str} (h : ([Str.ofString "+", Str.ofString "-"].any fun y => y == Txt.slice x none (some 1)) = false) : bgI x = 0 ∧ tlS x = Txt.slice x (some 0) none := by
  have e : bgI x = 0 := if_neg (by rw [h]; decide)
  exact ⟨e, by rw [tlS, e]⟩
theorem dot1 {x tl : Str} (e : tlS x = tl) (h : (Builtin.Str.occurrences tl (Str.ofString ".") 0 tl.length 1).isEmpty = false) :
    dotB (tlS x) = true ∧ ahS x = Txt.slice tl none (some (Txt.find tl (Str.ofString "."))) ∧ beS x = Txt.slice tl (some (Txt.find tl (Str.ofString ".") + 1)) none := by
  have d : dotB (tlS x) = true := by rw [e, dotB, h]; rfl
  exact ⟨d, by rw [ahS, if_pos d, e], by rw [beS, if_pos d, e]⟩
theorem dot0 {x tl : Str} (e : tlS x = tl) (h : (Builtin.Str.occurrences tl (Str.ofString ".") 0 tl.length 1).isEmpty = true) :
    dotB (tlS x) = false ∧ ahS x = tl ∧ beS x = Str.ofString "" := by
  have d : dotB (tlS x) = false := by rw [e, dotB, h]; rfl
  exact ⟨d, by rw [ahS, if_neg (by rw [d]; decide), e], by rw [beS, if_neg (by rw [d]; decide)]⟩
/-- a fact put away, out of the way of the search among the facts -/
structure Hid (p : Prop) : Prop where
  out : p
structure JF (x : Str) (b : Int) (ah be : Str) : Prop where
  eb : bgI x = b
  ea : ahS x = ah
  ee : beS x = be
  n1 : dotB (tlS x) = false ∨ (be == Str.ofString "") = false
  n2 : (ah ++ be == Str.ofString "") = false
theorem jf_of0 {x tl : Str} {b : Int} (q : bgI x = b ∧ tlS x = tl) (h : (Builtin.Str.occurrences tl (Str.ofString ".") 0 tl.length 1).isEmpty = true) (h2 : (tl ++ Str.ofString "" == Str.ofString "") = false) : JF x b tl (Str.ofString "") := by
  obtain ⟨q3, q4, q5⟩ := dot0 q.2 h
  exact ⟨q.1, q4, q5, .inl q3, h2⟩
theorem jf_of1 {x tl : Str} {b : Int} (q : bgI x = b ∧ tlS x = tl) (h : (Builtin.Str.occurrences tl (Str.ofString ".") 0 tl.length 1).isEmpty = false) (h1 : (Txt.slice tl (some (Txt.find tl (Str.ofString ".") + 1)) none == Str.ofString "") = false)
    (h2 : (Txt.slice tl none (some (Txt.find tl (Str.ofString "."))) ++ Txt.slice tl (some (Txt.find tl (Str.ofString ".") + 1)) none == Str.ofString "") = false) : JF x b (Txt.slice tl none (some (Txt.find tl (Str.ofString ".")))) (Txt.slice tl (some (Txt.find tl (Str.ofString ".") + 1)) none) := by
  obtain ⟨q3, q4, q5⟩ := dot1 q.2 h
  exact ⟨q.1, q4, q5, .inr h1, h2⟩
theorem ok_fig {x : Str} {k : Int} (h : (Builtin.Str.occurrences (Str.ofString "0123456789") (Txt.item x k) 0 (Str.ofString "0123456789").length 1).isEmpty = false) : okAt x k = true := by rw [okAt, figB, h]; rfl
theorem ok_dot {x ah be : Str} {b k : Int} (j : JF x b ah be) (h : k = b + (ah.length : Int)) : okAt x k = true := by
  rw [okAt, j.eb, j.ea, h]; simp
theorem ok_snoc {x : Str} {l : List Int} {b c k : Int} (h : ∀ j, b ≤ j → j < b + (l.length : Int) → okAt x j = true) (e : k = c + (l.length : Int)) (hc : b = c) (h2 : okAt x k = true) : ∀ j, b ≤ j → j < b + ((l ++ [k]).length : Int) → okAt x j = true := fun j h1 h3 => by
  rw [List.length_append, List.length_singleton] at h3
  by_cases q : j = k
  · rw [q]; exact h2
  · exact h j h1 (by omega)
theorem rdD_m {x ah be : Str} {b : Int} (j : JF x b ah be) : rdD x = match bad x ((x.length : Int) - b).toNat b with
    | some k => .inl k
    | none => .inr (if (Txt.slice x none (some 1) == Str.ofString "-") = true then -val (KStt.codes (ah ++ be)) else val (KStt.codes (ah ++ be)), be.length) := by
  rw [rdD, if_neg, if_neg, j.eb, j.ea, j.ee]
  · rw [j.ea, j.ee, j.n2]; decide
  · rintro ⟨q1, q2⟩
    rw [j.ee] at q2
    rcases j.n1 with h | h
    · rw [h] at q1; cases q1
    · rw [h] at q2; cases q2
theorem rdD_3 {x ah be : Str} {b k : Int} {i : Nat} (j : JF x b ah be) (hk : k = b + (i : Int)) (hi : i < ((x.length : Int) - b).toNat) (hall : ∀ j, b ≤ j → j < b + (i : Int) → okAt x j = true)
    (h1 : (Builtin.Str.occurrences (Str.ofString "0123456789") (Txt.item x k) 0 (Str.ofString "0123456789").length 1).isEmpty = true) (h2 : k ≠ b + (ah.length : Int)) : rdD x = .inl k := by
  have e : okAt x (b + (i : Int)) = false := by
    rw [← hk, okAt, figB, h1, j.eb, j.ea]
    simpa using h2
  rw [rdD_m j, bad_some _ _ _ hi e hall, hk]
theorem rdD_p {x ah be : Str} {b : Int} (j : JF x b ah be) (hall : ∀ j, b ≤ j → j < (x.length : Int) → okAt x j = true) (h : (Txt.slice x none (some 1) == Str.ofString "-") = false) : rdD x = .inr (val (KStt.codes (ah ++ be)), be.length) := by
  rw [rdD_m j, bad_none _ _ (fun j a c => hall j a (by omega)), h]
  rfl
theorem rdD_n {x ah be : Str} {b : Int} (j : JF x b ah be) (hall : ∀ j, b ≤ j → j < (x.length : Int) → okAt x j = true) (h : (Txt.slice x none (some 1) == Str.ofString "-") = true) : rdD x = .inr (-val (KStt.codes (ah ++ be)), be.length) := by
  rw [rdD_m j, bad_none _ _ (fun j a c => hall j a (by omega)), h]
  rfl
theorem figs_ok {x ah be : Str} {b : Int} (hfig : Hid ((∀ j, bgI x ≤ j → j < (x.length : Int) → okAt x j = true) → Figs (KStt.codes (ahS x ++ beS x)))) (j : JF x b ah be) (hall : ∀ j, b ≤ j → j < (x.length : Int) → okAt x j = true) : Figs (KStt.codes (ah ++ be)) := by
  have z := hfig.out
  rw [j.eb, j.ea, j.ee] at z
  exact z hall
section
variable {M : Model} {A : Around} {env : Env} {Q : Flow → Shared → Prop} {E : Value → Shared → Prop} {s : Shared}
theorem wp_split {Γ : PySem.Ctx} {Q : Flow → Pos → Shared → Prop} {E : Value → Pos → Shared → Prop} (l2 : List Stmt) : ∀ (l1 : List Stmt) (p : Pos) (s : Shared),
    Sem.wp M Γ (execs (l1 ++ l2) env) Q E p s = Sem.wp M Γ (execs l1 env) (fun f p' s' => match f with | .next => Sem.wp M Γ (execs l2 env) Q E p' s' | f => Q f p' s') E p s
  | [], p, s => by
    show Sem.wp M Γ (execs l2 env) Q E p s = Sem.wp M Γ (pure Flow.next : Sem Flow) _ E p s
    rw [Sem.wp_pure']
  | st :: r, p, s => by
    rw [List.cons_append, execs_cons, execs_cons, Sem.wp_bind', Sem.wp_bind']
    congr 1
    funext f p' s'
    cases f
    · exact wp_split l2 r p' s'
    all_goals rfl
/-- a list of statements cut behind its n-th -/
theorem execs_cut {l : List Stmt} (n : Nat) (Mid : Shared → Prop) (h1 : wpAny M A (execs (l.take n) env) (fun f s' => f = .next ∧ Mid s') E s) (h2 : ∀ s', Mid s' → wpAny M A (execs (l.drop n) env) Q E s') : wpAny M A (execs l env) Q E s := by
  intro Γ p hΓ
  rw [← List.take_append_drop n l, wp_split]
  refine Sem.wp_mono M Γ _ (fun f p' s' h => ?_) (fun _ _ _ h => h) p s (h1 Γ p hΓ)
  obtain ⟨rfl, hm⟩ := h
  exact h2 s' hm Γ p' hΓ
end
theorem frPin {g h : Heap} {L : Addr} {m : Str → Option Value} (F : Fr g L h m) {n : Str} {v : Value} (e : m n = some v) : Fr g L h (fun y => if y = n then some v else m y) := by
  have z : (fun y => if y = n then some v else m y) = m := funext fun y => by
    split
    · rename_i q; rw [q, e]
    · rfl
  rw [z]; exact F
structure Mid (x : Str) (tx : Tok) (g : Heap) (L : Addr) (news : List (Addr × Obj)) (s s' : Shared) : Prop where
  all : ∃ (b : Int) (ah be : Str) (ta tb te : Tok) (u : Str → Option Value) (h' : Heap) (tk' : Nat), s' = { s with heap := h', toks := tk' } ∧
    Fr g L h' (fun y => if y = Str.ofString "text" then some (.str x tx) else if y = Str.ofString "begin" then some (.int b tb) else if y = Str.ofString "ahead" then some (.str ah ta) else if y = Str.ofString "behind" then some (.str be te) else u y) ∧
    News g L h' news ∧ JF x b ah be ∧ (0 ≤ b ∧ b ≤ 1) ∧ ah.length ≤ 95 ∧ be.length ≤ 95
theorem mid_end {x : Str} {tx : Tok} {g : Heap} {L : Addr} {news rest : List (Addr × Obj)} {s s' : Shared} {b : Int} {ah be : Str} {ta tb te : Tok} {u : Str → Option Value}
    (F : Fr g L s'.heap u) (N : News g L s'.heap rest) (hs : ∀ p ∈ news, p ∈ rest) (es : s' = { s with heap := s'.heap, toks := s'.toks }) (j : JF x b ah be) (hb : 0 ≤ b ∧ b ≤ 1) (ha : ah.length ≤ 95) (he : be.length ≤ 95)
    (e1 : u (Str.ofString "text") = some (.str x tx)) (e2 : u (Str.ofString "begin") = some (.int b tb)) (e3 : u (Str.ofString "ahead") = some (.str ah ta)) (e4 : u (Str.ofString "behind") = some (.str be te)) : Mid x tx g L news s s' := by
  refine ⟨b, ah, be, ta, tb, te, u, s'.heap, s'.toks, es, ?_, fun p hp => N p (hs p hp), j, hb, ha, he⟩
  have z4 := frPin F e4
  have z3 := frPin z4 (n := Str.ofString "ahead") (v := .str ah ta) (by rw [if_neg (by decide), e3])
  have z2 := frPin z3 (n := Str.ofString "begin") (v := .int b tb) (by rw [if_neg (by decide), if_neg (by decide), e2])
  have z1 := frPin z2 (n := Str.ofString "text") (v := .str x tx) (by rw [if_neg (by decide), if_neg (by decide), if_neg (by decide), e1])
  exact z1
/-- the same, its frame told by a fact -/
noncomputable abbrev midOf {g h : Heap} {L : Addr} {m : Str → Option Value} (_ : Fr g L h m) (x : Str) (tx : Tok) (news : List (Addr × Obj)) (s : Shared) : Shared → Prop := Mid x tx g L news s
set_option maxRecDepth 100000 in
set_option maxHeartbeats 8000000 in
theorem c_rd (w : World) (x : Str) (tx : Tok) (hl : x.length ≤ 95) (hfig : Hid ((∀ j, bgI x ≤ j → j < (x.length : Int) → okAt x j = true) → Figs (KStt.codes (ahS x ++ beS x)))) : ConE w 84 [.str x tx] (rdD x) := by
  unfold ConE
  intro prog mean mg mb dp un gd cn cs a ccd cl outer A₀ base h₀ L m news s Q E B F X N T hk hd hu hcl hret
  subst hcl
  obtain ⟨r, hr⟩ : ∃ r, Hid (rdD x = r) := ⟨_, ⟨rfl⟩⟩
  rw [hr.out] at hret
  replace hret := Hid.mk hret
  refine wpAny_call ?_
  k_extra "og enter"
  rename Fr _ _ _ _ => oF
  refine execs_cut Nat.zero.succ.succ.succ.succ (midOf oF x tx news s) ?_ (fun s' hm => ?_)
  case refine_2 =>
    obtain ⟨⟨b, ah, be, ta, tb, te, u, h2, tk2, rfl, F2, N2, jf, hb, hla, hle⟩⟩ := hm
    clear oF
    dsimp only [List.drop]
    (k_with "pyIter ref" => k_search (fun pre => ∀ j, b ≤ j → j < b + (pre.length : Int) → okAt x j = true))
    (k_with "state" => (first | (intro j q1 q2; exfalso; simp only [List.length_nil] at q2; omega) | exact ok_snoc kInv kEq (by assumption) (ok_fig (by assumption)) | exact ok_snoc kInv kEq (by assumption) (ok_dot (by assumption) (by assumption))))
    (k_with "og figs" => exact figs_ok hfig jf (fun j a c => kInv j a (by rw [rangeKs_length]; omega)))
    k_steps
    · exact raise_end (retD_l hret.out (k := kN) (hr.out.symm.trans (rdD_3 jf (i := kPre.length) (by omega) (by omega) kInv (by assumption) (by assumption)))) (by assumption) (by assumption) (by assumption) (by assumption) (fun p hp => List.mem_append_left _ hp) (fun _ _ => rfl)
    · exact retP_end (retD_r hret.out (hr.out.symm.trans (rdD_n jf (fun j a c => kInv j a (by rw [rangeKs_length]; omega)) (by assumption)))) (by assumption) (by assumption) (by assumption) rfl rfl
    · exact retP_end (retD_r hret.out (hr.out.symm.trans (rdD_p jf (fun j a c => kInv j a (by rw [rangeKs_length]; omega)) (by assumption)))) (by assumption) (by assumption) (by assumption) rfl rfl
    · exact raise_end (retD_l hret.out (k := kN) (hr.out.symm.trans (rdD_3 jf (i := kPre.length) (by omega) (by omega) kInv (by assumption) (by assumption)))) (by assumption) (by assumption) (by assumption) (by assumption) (fun p hp => List.mem_append_left _ hp) (fun _ _ => rfl)
    · exact retP_end (retD_r hret.out (hr.out.symm.trans (rdD_n jf (fun j a c => kInv j a (by rw [rangeKs_length]; omega)) (by assumption)))) (by assumption) (by assumption) (by assumption) rfl rfl
    · exact retP_end (retD_r hret.out (hr.out.symm.trans (rdD_p jf (fun j a c => kInv j a (by rw [rangeKs_length]; omega)) (by assumption)))) (by assumption) (by assumption) (by assumption) rfl rfl
  dsimp only [List.take]
  k_steps
  all_goals first
    | (exfalso; (rename (Builtin.Str.occurrences _ _ _ _ _).isEmpty = true => q1); (rename (Builtin.Str.occurrences _ _ _ _ _).isEmpty = false => q2); exact Bool.noConfusion (q1.symm.trans q2))
    | skip
  · obtain ⟨q1, q2⟩ := bg1 (x := x) (by assumption)
    obtain ⟨q3, q4, q5⟩ := dot0 q2 (by assumption)
    exact raise_end (retD_l hret.out (k := 1) (hr.out.symm.trans ((rdD_2 (.inl q3) (by rw [q4, q5]; assumption)).trans (by rw [q1])))) (by assumption) (by assumption) (by assumption) (by assumption) (by k_extra "og sub") (fun _ _ => rfl)
  · have jf := jf_of0 (x := x) (bg1 (by assumption)) (by assumption) (by assumption)
    exact mid_end (by assumption) (by assumption) (by k_extra "og sub") rfl jf (by omega) (by omega) (by first | omega | decide) rfl rfl rfl rfl
  · obtain ⟨q1, q2⟩ := bg1 (x := x) (by assumption)
    obtain ⟨q3, q4, q5⟩ := dot1 q2 (by assumption)
    exact raise_end (retD_l hret.out (hr.out.symm.trans (rdD_1 q3 (by rw [q5]; assumption)))) (by assumption) (by assumption) (by assumption) (by assumption) (by k_extra "og sub") (fun _ _ => rfl)
  · obtain ⟨q1, q2⟩ := bg1 (x := x) (by assumption)
    obtain ⟨q3, q4, q5⟩ := dot1 q2 (by assumption)
    exact raise_end (retD_l hret.out (k := 1) (hr.out.symm.trans ((rdD_2 (.inr (by rw [q5]; assumption)) (by rw [q4, q5]; assumption)).trans (by rw [q1])))) (by assumption) (by assumption) (by assumption) (by assumption) (by k_extra "og sub") (fun _ _ => rfl)
  · have jf := jf_of1 (x := x) (bg1 (by assumption)) (by assumption) (by assumption) (by assumption)
    exact mid_end (by assumption) (by assumption) (by k_extra "og sub") rfl jf (by omega) (by omega) (by first | omega | decide) rfl rfl rfl rfl
  · obtain ⟨q1, q2⟩ := bg0 (x := x) (by assumption)
    obtain ⟨q3, q4, q5⟩ := dot0 q2 (by assumption)
    exact raise_end (retD_l hret.out (k := 0) (hr.out.symm.trans ((rdD_2 (.inl q3) (by rw [q4, q5]; assumption)).trans (by rw [q1])))) (by assumption) (by assumption) (by assumption) (by assumption) (by k_extra "og sub") (fun _ _ => rfl)
  · have jf := jf_of0 (x := x) (bg0 (by assumption)) (by assumption) (by assumption)
    exact mid_end (by assumption) (by assumption) (by k_extra "og sub") rfl jf (by omega) (by omega) (by first | omega | decide) rfl rfl rfl rfl
  · obtain ⟨q1, q2⟩ := bg0 (x := x) (by assumption)
    obtain ⟨q3, q4, q5⟩ := dot1 q2 (by assumption)
    exact raise_end (retD_l hret.out (hr.out.symm.trans (rdD_1 q3 (by rw [q5]; assumption)))) (by assumption) (by assumption) (by assumption) (by assumption) (by k_extra "og sub") (fun _ _ => rfl)
  · obtain ⟨q1, q2⟩ := bg0 (x := x) (by assumption)
    obtain ⟨q3, q4, q5⟩ := dot1 q2 (by assumption)
    exact raise_end (retD_l hret.out (k := 0) (hr.out.symm.trans ((rdD_2 (.inr (by rw [q5]; assumption)) (by rw [q4, q5]; assumption)).trans (by rw [q1])))) (by assumption) (by assumption) (by assumption) (by assumption) (by k_extra "og sub") (fun _ _ => rfl)
  · have jf := jf_of1 (x := x) (bg0 (by assumption)) (by assumption) (by assumption) (by assumption)
    exact mid_end (by assumption) (by assumption) (by k_extra "og sub") rfl jf (by omega) (by omega) (by first | omega | decide) rfl rfl rfl rfl
end Og
/- part OgL -/
namespace Og
theorem ga60 (w : World) : findIn (Og.KX w.params) (.ref 60) (Str.ofString "__getattribute__") = some (some (.builtin "BaseException.__getattribute__")) := by k_is
theorem gh60 (w : World) : findIn (Og.KX w.params) (.ref 60) (Str.ofString "__getattr__") = some none := by k_is
theorem hd60 (w : World) : hasDictIn (Og.KX w.params) 60 = true := by k_is
theorem fi60 (w : World) : findIn (Og.KX w.params) (.ref 60) (Str.ofString "at") = some none := by k_is
section
variable {prog : Program} {w : World} {A : Around} {E : Value → Shared → Prop} {s : Shared} {g : Heap} {L e d T : Addr} {m : Str → Option Value} {Q : Value → Shared → Prop} {news : List (Addr × Obj)} {oe od : Obj} {expr : Bool}
theorem chk60 {M : Model} {h : Heap} {gs : Array GenState} {dr : Drawn} {t : Nat} {os : OsState} {o : Obj} {nameV : Value} {Q : Unit → Shared → Prop} (X : (Og.KX w.params).In h) (hx : h.get? e = some o) (hc : o.cls = .ref 60) (hq : Q () ⟨h, gs, dr, t, os⟩) :
    wpAny M A (checkBuiltinCall "BaseException.__getattribute__" ⟨[.ref e, nameV], []⟩) Q E ⟨h, gs, dr, t, os⟩ := by
  obtain ⟨nm, q', N', bs, bm, hdc, sn, sub, ab, col, dd, k0, k1, k2, k3, k5, newId, hC, hbase, _⟩ := kts_cls X (cls60 w)
  have hcB : (Value.ref 60 :: bm).contains (.type "BaseException") = true := by rw [List.contains_cons, hbase, Bool.or_true]
  have hk : builtinKind "BaseException.__getattribute__" = some .slot := by decide +kernel
  have hsplit : splitId "BaseException.__getattribute__" = some ("BaseException", "__getattribute__") := by decide +kernel
  have ha := PySem.F.args_bexc_ga (.ref e) nameV
  simp only [checkBuiltinCall, hk, hsplit]
  refine wpAny_bind ?_
  · unfold isInstance
    repeat (first | (with_reducible refine wpAny_loadPart_at hx ?_; rw [hc]) | (with_reducible refine wpAny_isSubtype_exc hC ?_; rw [hcB]) | wp_step)
    exact hq
theorem at_get (F : Fr g L s.heap m) (X : (Og.KX w.params).In g) (N : News g L s.heap news) (m1 : (e, oe) ∈ news) (m2 : (d, od) ∈ news) (oD : oe.dict = some d) (oC : oe.cls = .ref 60) (oF : ∃ vs, oe.data = .fields vs) (oA : AtT T od)
    (h : Q (.ref T) { s with toks := s.toks + 1 }) : wpAny (model prog w) A (getAttr (.ref e) (Str.ofString "at") expr) Q E s := by
  obtain ⟨h1, h2, t1, t2, v, rfl⟩ := oA
  obtain ⟨vs, hvs⟩ := oF
  have nc : notCls oe = true := by
    obtain ⟨c, dd, dt, sl⟩ := oe
    subst hvs
    rfl
  have I : InstAt s.heap e oe 60 (some (dictOf [⟨h1, .str (Str.ofString "what") t1, v⟩, ⟨h2, .str (Str.ofString "at") t2, .ref T⟩] 2)) := ⟨N.get m1, oC, nc, by rw [oD]; exact N.get m2⟩
  have Xs := X.keeps F.keep
  obtain ⟨nm, q', N', bs, bm, hdc, sn, sub, ab, col, dd, k0, k1, k2, k3, k5, newId, hC, hbase, _⟩ := kts_cls Xs (cls60 w)
  have hcB : (Value.ref 60 :: bm).contains (.type "BaseException") = true := by rw [List.contains_cons, hbase, Bool.or_true]
  have hx := N.get m1
  have hf : findObj (Og.KX w.params) 60 (some (dictOf [⟨h1, .str (Str.ofString "what") t1, v⟩, ⟨h2, .str (Str.ofString "at") t2, .ref T⟩] 2)) (Str.ofString "at") = some (.value (.ref T)) := findObj_own (hd60 w) (fi60 w) rfl rfl
  obtain ⟨hp, gs, d', tk, os⟩ := s
  have L0 := I.type (M := model prog w)
  have L1 := looks_findIn (M := model prog w) Xs (ga60 w)
  have L2 := looks_findIn (M := model prog w) Xs (gh60 w)
  have L3 := looks_find (M := model prog w) Xs I hf
  have FB := PySem.F.attrBase_Exception
  unfold getAttr getAttrBy
  refine wpAny_bind (wpAny_mkText (wpAny_holding (wpAny_bind (L0.at (wpAny_bind (L1.at ?_))))))
  show wpAny _ _ (getAttrByItsOwn _ _ _ _ _ _) _ _ _
  unfold getAttrByItsOwn
  refine wpAny_bind (show wpAny _ _ (typeLookup (.ref 60) (Str.ofString "__getattr__")) _ _ _ from L2.at ?_)
  refine wpAny_bind (wpAny_attempt (wpAny_holding ?_))
  have e1 : callGetattribute (.ref e) (.str (Str.ofString "at") tk) (.builtin "BaseException.__getattribute__") expr = boundAndCalled (.builtin "BaseException.__getattribute__") (.ref e) (.str (Str.ofString "at") tk) := by cases expr <;> rfl
  rw [e1]
  unfold boundAndCalled
  have f3 := FB.ga.bind (.ref e)
  rw [f3]
  refine wpAny_bind (wpAny_pure ?_)
  refine wpAny_call (codeAny_call_builtin FB.ga.plain PySem.F.entry_bexc_ga ?_)
  refine chk60 Xs hx oC ?_
  unfold Builtin.«object.__getattribute__»
  refine wpAny_bind (wpAny_pure ?_)
  refine wpAny_bind (wpAny_pure ?_)
  refine wpAny_bind (L0.at (wpAny_bind (L3.at ?_)))
  repeat (any_goals (first | assumption | wp_step))
end
end Og
/- part OgK -/
namespace Og
theorem rowsK : True := by
  k_with_none
  (k_with "og sub" => (intro p hp; repeat (first | exact hp | refine List.Mem.tail _ ?_)))
  (k_with "og enterS" => (k_dflt ((refine code_defS0 (by k_asm) (by k_asm) (by k_asm) (by k_asm) (by k_asm) (by exact rfl) (by k_is) (by k_is) (by (show _ < 1000; (try dsimp only [ktrTop, Around.deeper]); omega)) (by first | exact binds_K (by k_in) rfl (by k_is) rfl rfl rfl | exact BindsTo.of_eq rfl) (by exact locs rfl) ?_ (by assumption) (by exact rfl) (by exact rfl) (by exact rfl) (by decide)); k_whole; intro g' L' h' FG' F' N' B' X' T' D'; (try dsimp only); (try k_lift B'); (try k_fold))))
  (k_with "og: noteFrame ref" => ((k_dflt ((refine caught_fault (by assumption) (by assumption) (by assumption) (by assumption) (by assumption) (by assumption) (by assumption) (by first | assumption | exact KtsTurn.refl) (nsTF _) (cls60 _) ?_); k_whole)); intro h' g' oe' tk' T' F' N' oD' oC' oF' oA' K' X' P' D'; (try k_lift K'); (try k_sweep)))
  (k_with "og: getAttr ref" => (k_dflt ((refine at_get (by k_asm) (by k_asm) (by k_asm) (by exact List.Mem.head _) (by exact List.Mem.tail _ (List.Mem.head _)) (by assumption) (by assumption) (by assumption) (by assumption) ?_); k_whole)))
  (k_with "og call" => (k_dflt ((with_reducible show wpAny _ _ (call (Value.ref 124) _) _ _ _); (refine con_use (hid_con (by assumption)) (by k_asm) (by k_asm) (by k_asm) (by k_asm) (by k_asm) (by rfl) (by ((try dsimp only [ktrTop, Around.deeper, Around.in1, Around.mark]); show _ < 1000; first | decide | omega)) (by ((try dsimp only [ktrTop, Around.deeper, Around.in1, Around.mark]); unfold cLine; first | decide | omega)) ?_); k_whole; intro D' t' c' h' tk' F' N' l1)))
  (k_with "og call" => (k_dflt ((with_reducible show wpAny _ _ (call (Value.ref 84) _) _ _ _); (refine cone_use (hid_cone (by assumption)) (by k_asm) (by k_asm) (by k_asm) (by k_asm) (by k_asm) (by rfl) (by ((try dsimp only [ktrTop, Around.deeper, Around.in1, Around.mark]); first | decide | omega)) (by ((try dsimp only [ktrTop, Around.deeper, Around.in1, Around.mark]); first | decide | omega)) ?_); k_whole; intro G' e' d' T' t1' t2' c' od' h' tk' FG' FL' UP')))
  exact True.intro
theorem news_sub {g h : Heap} {L : Addr} {news rest : List (Addr × Obj)} (N : News g L h rest) (hs : ∀ p ∈ news, p ∈ rest) : News g L h news := fun p hp => N p (hs p hp)
/-- what a call of _law_right from the law's own frame does -/
noncomputable def ConR (w : World) (f : Addr) (vs : List Value) (Post : Heap → Addr → (Str → Option Value) → List (Addr × Obj) → Shared → (Value → Shared → Prop) → Prop) : Prop :=
  ∀ (prog : Program) (mean : ExcName → Option Value) (mg mb : Str → Option Value) (dp un : Nat) (gd : Option (List Code)) (cn : Str) (cs : Scope) (a : Addr) (ccd : Value) (A₀ : Around) (base h₀ : Heap) (L : Addr) (m : Str → Option Value) (news : List (Addr × Obj)) (s : Shared) (Q E : Value → Shared → Prop),
    Below A₀ base [] h₀ → Fr h₀ L s.heap m → (Og.KX w.params).In h₀ → News h₀ L s.heap news → Top Og.hd.view_39 lo₀ mean mg mb h₀ → (Og.KX w.params).In base → Top Og.hd.view_39 lo₀ mean mg mb base → cs.kind = .function → dp ≤ 350 → un ≤ 200 →
    Post h₀ L m news s Q →
      wpAny (model prog w) (ktrTop dp un gd cn cs L a ccd [] []) (call (.ref f) vs) Q E s
theorem cone_use {w : World} {f : Addr} {vs : List Value} {r : Int ⊕ (Int × Int)} (h : ConE w f vs r)
    {prog : Program} {mean : ExcName → Option Value} {mg mb : Str → Option Value} {dp un : Nat} {gd : Option (List Code)} {cn : Str} {cs : Scope} {a : Addr} {ccd : Value} {outer : List Env} {A₀ : Around} {base h₀ : Heap} {L : Addr} {m : Str → Option Value} {news : List (Addr × Obj)} {s : Shared} {Q E : Value → Shared → Prop}
    (B : Below A₀ base outer h₀) (F : Fr h₀ L s.heap m) (X : (Og.KX w.params).In h₀) (N : News h₀ L s.heap news) (T : Top Og.hd.view_39 lo₀ mean mg mb h₀) (hk : cs.kind = .function) (hd : dp ≤ 400) (hu : un ≤ 300) (p : RetD base h₀ (envOf cn cs L a ccd) outer L m news s Q E r) :
    wpAny (model prog w) (ktrTop dp un gd cn cs L a ccd [] outer) (call (.ref f) vs) Q E s := h _ _ _ _ _ _ _ _ _ _ _ _ _ _ _ _ _ _ _ _ _ _ B F X N T hk hd hu rfl p
theorem hid_con {w : World} {sz : Nat} {f : Addr} {x : Str} {tx : Tok} {Post : Heap → Addr → (Str → Option Value) → List (Addr × Obj) → Shared → (Value → Shared → Prop) → Prop} (h : Hid (∀ tx, Con w sz f [.str x tx] Post)) : Con w sz f [.str x tx] Post := h.out tx
theorem hid_cone {w : World} {f : Addr} {x : Str} {tx : Tok} {r : Int ⊕ (Int × Int)} (h : Hid (∀ tx, ConE w f [.str x tx] r)) : ConE w f [.str x tx] r := h.out tx
local macro_rules | `(tactic| walk_at "call ref") => `(tactic| k_extra "og call")
local macro_rules | `(tactic| walk_at "noteFrame ref") => `(tactic| k_extra "og: noteFrame ref")
local macro_rules | `(tactic| walk_at "getAttr ref") => `(tactic| k_extra "og: getAttr ref")
set_option maxRecDepth 100000 in
set_option maxHeartbeats 2000000 in
theorem c_right1 (w : World) (x : Str) (tx : Tok) (k : Int) (hrd : Hid (∀ tx, ConE w 84 [.str x tx] (.inl k))) (hread : Hid (∀ tx, Con w 1 124 [.str x tx] (fun h₀ L m news s Q => RetR h₀ L m news s Q (.inl k)))) : ConR w 138 [.str x tx] (fun h₀ L m news s Q => RetB h₀ L m news s Q true) := by
  unfold ConR
  intro prog mean mg mb dp un gd cn cs a ccd A₀ base h₀ L m news s Q E B F X N T XB TB hk hd hu hret
  refine wpAny_call ?_
  k_extra "og enterS"
  k_steps
  exact hret _ _ (by assumption) (news_sub (by assumption) (by k_extra "og sub"))
end Og
/- part OgM -/
namespace Og
theorem rowsM : True := by
  k_with_none
  (k_with "og sub" => (intro p hp; repeat (first | exact hp | refine List.Mem.tail _ ?_)))
  (k_with "og enterS" => (k_dflt ((refine code_defS0 (by k_asm) (by k_asm) (by k_asm) (by k_asm) (by k_asm) (by exact rfl) (by k_is) (by k_is) (by (show _ < 1000; (try dsimp only [ktrTop, Around.deeper]); omega)) (by first | exact binds_K (by k_in) rfl (by k_is) rfl rfl rfl | exact BindsTo.of_eq rfl) (by exact locs rfl) ?_ (by assumption) (by exact rfl) (by exact rfl) (by exact rfl) (by decide)); k_whole; intro g' L' h' FG' F' N' B' X' T' D'; (try dsimp only); (try k_lift B'); (try k_fold))))
  (k_with "og call" => (k_dflt ((with_reducible show wpAny _ _ (call (Value.ref 124) _) _ _ _); (refine con_use (hid_conr (by assumption)) (by k_asm) (by k_asm) (by k_asm) (by k_asm) (by k_asm) (by rfl) (by ((try dsimp only [ktrTop, Around.deeper, Around.in1, Around.mark]); show _ < 1000; first | decide | omega)) (by ((try dsimp only [ktrTop, Around.deeper, Around.in1, Around.mark]); unfold cLine; first | decide | omega)) ?_); k_whole; intro D' D2' t' u' c' c2' h' tk' F' N' l1 l2 l3)))
  (k_with "og call" => (k_dflt ((with_reducible show wpAny _ _ (call (Value.ref 84) _) _ _ _); (refine conp_use (by assumption) (by k_asm) (by k_asm) (by k_asm) (by k_asm) (by k_asm) (by rfl) (by ((try dsimp only [ktrTop, Around.deeper, Around.in1, Around.mark]); first | decide | omega)) (by ((try dsimp only [ktrTop, Around.deeper, Around.in1, Around.mark]); first | decide | omega)) ?_); k_whole; intro D' t' u' c' h' tk' F' N' l1)))
  (k_with "og call" => (k_dflt ((with_reducible show wpAny _ _ (call (Value.ref 105) _) _ _ _); (refine con_use (hid_con2 (by assumption)) (by k_asm) (by k_asm) (by k_asm) (by k_asm) (by k_asm) (by rfl) (by ((try dsimp only [ktrTop, Around.deeper, Around.in1, Around.mark]); show _ < 1000; first | decide | omega)) (by ((try dsimp only [ktrTop, Around.deeper, Around.in1, Around.mark]); unfold cLine; first | decide | omega)) ?_); k_whole; intro D' t' u' c' h' tk' F' N' l1)))
  (k_with "og call" => (k_dflt ((first | (with_reducible show wpAny _ _ (call (Value.ref 91) _) _ _ _) | (with_reducible show wpAny _ _ (call (Value.ref 131) _) _ _ _)); (refine con_use (hid_conw (by assumption)) (by k_asm) (by k_asm) (by k_asm) (by k_asm) (by k_asm) (by rfl) (by ((try dsimp only [ktrTop, Around.deeper, Around.in1, Around.mark]); show _ < 1000; first | decide | omega)) (by ((try dsimp only [ktrTop, Around.deeper, Around.in1, Around.mark]); unfold cLine; first | decide | omega)) (And.intro (by (repeat (first | exact List.Mem.head _ | refine List.Mem.tail _ ?_))) ?_)); k_whole; intro t' h' tk' F' N')))
  exact True.intro
/-- a call of read_decimal that hands back a pair -/
noncomputable def ConP (w : World) (f : Addr) (vs : List Value) (u sc : Int) : Prop :=
  ∀ (prog : Program) (mean : ExcName → Option Value) (mg mb : Str → Option Value) (dp un : Nat) (gd : Option (List Code)) (cn : Str) (cs : Scope) (a : Addr) (ccd : Value) (outer : List Env) (A₀ : Around) (base h₀ : Heap) (L : Addr) (m : Str → Option Value) (news : List (Addr × Obj)) (s : Shared) (Q E : Value → Shared → Prop),
    Below A₀ base outer h₀ → Fr h₀ L s.heap m → (Og.KX w.params).In h₀ → News h₀ L s.heap news → Top Og.hd.view_39 lo₀ mean mg mb h₀ → cs.kind = .function → dp ≤ 400 → un ≤ 300 →
    RetP h₀ L m news s Q u sc →
      wpAny (model prog w) (ktrTop dp un gd cn cs L a ccd [] outer) (call (.ref f) vs) Q E s
theorem conp_of {w : World} {f : Addr} {vs : List Value} {a b u sc : Int} (h : ConE w f vs (.inr (a, b))) (e : dec a b = (u, sc)) : ConP w f vs u sc := by
  unfold ConP
  intro prog mean mg mb dp un gd cn cs a' ccd outer A₀ base h₀ L m news s Q E B F X N T hk hd hu hret
  refine h _ _ _ _ _ _ _ _ _ _ _ _ _ _ _ _ _ _ _ _ _ _ B F X N T hk hd hu rfl ?_
  show RetP h₀ L m news s Q (dec a b).1 (dec a b).2
  rw [e]
  exact hret
theorem conp_use {w : World} {f : Addr} {x : Str} {tx : Tok} {u sc : Int} (h : Hid (∀ tx, ConP w f [.str x tx] u sc))
    {prog : Program} {mean : ExcName → Option Value} {mg mb : Str → Option Value} {dp un : Nat} {gd : Option (List Code)} {cn : Str} {cs : Scope} {a : Addr} {ccd : Value} {outer : List Env} {A₀ : Around} {base h₀ : Heap} {L : Addr} {m : Str → Option Value} {news : List (Addr × Obj)} {s : Shared} {Q E : Value → Shared → Prop}
    (B : Below A₀ base outer h₀) (F : Fr h₀ L s.heap m) (X : (Og.KX w.params).In h₀) (N : News h₀ L s.heap news) (T : Top Og.hd.view_39 lo₀ mean mg mb h₀) (hk : cs.kind = .function) (hd : dp ≤ 400) (hu : un ≤ 300) (p : RetP h₀ L m news s Q u sc) :
    wpAny (model prog w) (ktrTop dp un gd cn cs L a ccd [] outer) (call (.ref f) [.str x tx]) Q E s := h.out tx _ _ _ _ _ _ _ _ _ _ _ _ _ _ _ _ _ _ _ _ _ B F X N T hk hd hu p
theorem hid_conr {w : World} {f : Addr} {x : Str} {tx : Tok} {r : Int ⊕ (Int × Int)} (h : Hid (∀ tx, Con w 1 f [.str x tx] (fun h₀ L m news s Q => RetR h₀ L m news s Q r))) : Con w 1 f [.str x tx] (fun h₀ L m news s Q => RetR h₀ L m news s Q r) := h.out tx
theorem hid_con2 {w : World} {f : Addr} {x y u sc : Int} {tx ty : Tok} (h : Hid (∀ tx ty, Con w 1 f [.int x tx, .int y ty] (fun h₀ L m news s Q => RetP h₀ L m news s Q u sc))) : Con w 1 f [.int x tx, .int y ty] (fun h₀ L m news s Q => RetP h₀ L m news s Q u sc) := h.out tx ty
/-- a call of a def upon the pair u, sc, that hands back the text y -/
noncomputable def ConW (w : World) (f : Addr) (u sc : Int) (y : Str) : Prop := ∀ D tx ty c, Con w 1 f [.ref D] (fun h₀ L m news s Q => (D, ({ cls := .type "tuple", data := .seq #[.int u tx, .int sc ty] c } : Obj)) ∈ news ∧ RetS h₀ L m news s Q y)
theorem hid_conw {w : World} {f D : Addr} {u sc : Int} {y : Str} {tx ty : Tok} {c : Nat} (h : Hid (ConW w f u sc y)) : Con w 1 f [.ref D] (fun h₀ L m news s Q => (D, ({ cls := .type "tuple", data := .seq #[.int u tx, .int sc ty] c } : Obj)) ∈ news ∧ RetS h₀ L m news s Q y) := h.out D tx ty c
local macro_rules | `(tactic| walk_at "call ref") => `(tactic| k_extra "og call")
set_option maxRecDepth 100000 in
set_option maxHeartbeats 2000000 in
theorem c_right2 (w : World) (x y : Str) (tx : Tok) (u0 s0 u sc : Int) (hrd : Hid (∀ tx, ConP w 84 [.str x tx] u sc)) (hread : Hid (∀ tx, Con w 1 124 [.str x tx] (fun h₀ L m news s Q => RetR h₀ L m news s Q (.inr (u0, s0)))))
    (hplain : Hid (∀ tx ty, Con w 1 105 [.int u0 tx, .int s0 ty] (fun h₀ L m news s Q => RetP h₀ L m news s Q u sc))) (hwrite : Hid (ConW w 91 u sc y)) (hshown : Hid (ConW w 131 u sc y)) (hback : Hid (∀ tx, ConP w 84 [.str y tx] u sc)) :
    ConR w 138 [.str x tx] (fun h₀ L m news s Q => RetB h₀ L m news s Q true) := by
  unfold ConR
  intro prog mean mg mb dp un gd cn cs a ccd A₀ base h₀ L m news s Q E B F X N T XB TB hk hd hu hret
  refine wpAny_call ?_
  k_extra "og enterS"
  k_steps
  all_goals first
    | (exfalso; (rename (y == y) = false => q); rw [beq_self_eq_true] at q; cases q)
    | exact hret _ _ (by assumption) (news_sub (by assumption) (by k_extra "og sub"))
end Og
/- part OgP1 -/
namespace Og
/-- the signs of a text as a list -/
noncomputable abbrev nl (x : Str) : List Nat := x.cps.toList
theorem nl_inj {x y : Str} (h : nl x = nl y) : x = y := by
  obtain ⟨a⟩ := x
  obtain ⟨b⟩ := y
  exact congrArg Str.mk (Array.toList_inj.mp h)
theorem nl_len (x : Str) : (nl x).length = x.length := Array.length_toList
theorem nl_app (x y : Str) : nl (x ++ y) = nl x ++ nl y := KT.app_list x y
theorem nl_nil {x : Str} (h : nl x = []) : x = Str.ofString "" := nl_inj (h.trans (by decide +kernel))
theorem nl_from (x : Str) {k : Int} (h : 0 ≤ k) : nl (Txt.slice x (some k) none) = (nl x).drop k.toNat := by
  by_cases q : k ≤ x.length
  · rw [slice_from_eq (b := x.length) h q rfl]
    show ((nl x).drop k.toNat).take _ = _
    rw [List.take_of_length_le]
    rw [List.length_drop, nl_len]; omega
  · rw [slice_beyond (by omega), List.drop_of_length_le (by rw [nl_len]; omega)]
    rfl
theorem idx_beyond {n : Nat} {i : Int} (h : (n : Int) ≤ i) : Builtin.Str.strSliceIndices none (some i) 1 n = Builtin.Str.strSliceIndices none (some (n : Int)) 1 n := by
  have h0 : ¬ i < 0 := by omega
  have h1 : ¬ ((n : Int) < 0) := by omega
  have h2 : (1 : Int) > 0 := by decide
  simp only [Builtin.Str.strSliceIndices, h0, h1, h2, if_false, if_true, Int.min_eq_right h, Int.min_self]
theorem nl_to (x : Str) {k : Int} (h : 0 ≤ k) : nl (Txt.slice x none (some k)) = (nl x).take k.toNat := by
  by_cases q : k ≤ x.length
  · rw [beq_iff_eq.mp (slice_closes_toL h q)]
    show ((nl x).drop 0).take (k - 0).toNat = _
    rw [List.drop_zero]
    congr 2; omega
  · have e : Txt.slice x none (some k) = Txt.slice x none (some (x.length : Int)) := by
      unfold Txt.slice
      rw [idx_beyond (by omega)]
    rw [e, beq_iff_eq.mp (slice_closes_toL (by omega) (Int.le_refl _)), List.take_of_length_le (l := nl x) (by rw [nl_len]; omega)]
    show ((nl x).drop 0).take ((x.length : Int) - 0).toNat = _
    rw [List.drop_zero, List.take_of_length_le (by rw [nl_len]; omega)]
theorem item_eq (x : Str) {k : Int} {i : Nat} {c : Nat} (e : k = (i : Int)) (h : (nl x)[i]? = some c) : Txt.item x k = ⟨#[c]⟩ := by
  obtain ⟨hi, _⟩ := List.getElem?_eq_some_iff.mp h
  rw [nl_len] at hi
  have e2 : (if k < 0 then k + (x.length : Int) else k) = k := if_neg (by omega)
  have e3 : seqIndex? k x.length = some i := by
    unfold seqIndex?
    rw [e2]
    dsimp only
    rw [if_pos (by simp only [Bool.and_eq_true, decide_eq_true_eq]; omega)]
    congr 1; omega
  have e4 : Txt.charAt x k = some c := by
    unfold Txt.charAt
    rw [e3]
    show x.cps[i]? = some c
    rw [← h]
    exact (Array.getElem?_toList).symm
  unfold Txt.item
  rw [e4]; rfl
theorem empty1 (x : Str) (c : Nat) : (Builtin.Str.occurrences x ⟨#[c]⟩ 0 x.length 1).isEmpty = !decide (c ∈ nl x) := by
  have h := StrLaws.found_one x c
  rw [← h, Bool.not_not]
theorem find_some {x : Str} {c : Nat} {a b : List Nat} (h : nl x = a ++ c :: b) (hn : c ∉ a) : Txt.find x ⟨#[c]⟩ = (a.length : Int) := by
  have at_iff : ∀ i, StrLaws.At x ⟨#[c]⟩ x.length i ↔ (nl x)[i]? = some c := fun i => StrLaws.subAt_one x c i
  have ha : (nl x)[a.length]? = some c := by rw [h]; simp
  rcases find_whole x ⟨#[c]⟩ with ⟨_, h2⟩ | ⟨i, h1, h2, h3⟩
  · exact absurd ((at_iff _).mpr ha) (h2 _)
  · rw [h1]
    congr 1
    have h2' := (at_iff i).mp h2
    have : ¬ a.length < i := fun q => h3 _ q ((at_iff _).mpr ha)
    by_cases q : i < a.length
    · rw [h, List.getElem?_append_left q] at h2'
      exact absurd (List.mem_of_getElem? h2') hn
    · omega
theorem find_none {x : Str} {c : Nat} (h : c ∉ nl x) : Txt.find x ⟨#[c]⟩ = -1 := by
  have at_iff : ∀ i, StrLaws.At x ⟨#[c]⟩ x.length i ↔ (nl x)[i]? = some c := fun i => StrLaws.subAt_one x c i
  rcases find_whole x ⟨#[c]⟩ with ⟨h1, _⟩ | ⟨i, _, h2, _⟩
  · exact h1
  · exact absurd (List.mem_of_getElem? ((at_iff i).mp h2)) h
theorem split_at (l : List Nat) (c : Nat) (h : c ∈ l) : ∃ a b, l = a ++ c :: b ∧ c ∉ a := by
  induction l with
  | nil => cases h
  | cons d r ih =>
    by_cases q : d = c
    · exact ⟨[], r, by rw [q]; rfl, by simp⟩
    · rcases List.mem_cons.mp h with e | e
      · exact absurd e.symm q
      · obtain ⟨a, b, e1, e2⟩ := ih e
        refine ⟨d :: a, b, by rw [e1]; rfl, ?_⟩
        intro z
        rcases List.mem_cons.mp z with z | z
        · exact q z.symm
        · exact e2 z
theorem nl_tens : nl (Str.ofString "0123456789") = [48, 49, 50, 51, 52, 53, 54, 55, 56, 57] := by decide +kernel
theorem mem_tens {c : Nat} : c ∈ nl (Str.ofString "0123456789") ↔ 48 ≤ c ∧ c ≤ 57 := by
  rw [show nl (Str.ofString "0123456789") = List.range' 48 10 from nl_tens, List.mem_range'_1]
  omega
theorem dot_eq : Str.ofString "." = ⟨#[46]⟩ := by decide +kernel
theorem emp_eq : Str.ofString "" = ⟨#[]⟩ := by decide +kernel
theorem minus_eq : Str.ofString "-" = ⟨#[45]⟩ := by decide +kernel
theorem plus_eq : Str.ofString "+" = ⟨#[43]⟩ := by decide +kernel
theorem nought_eq : Str.ofString "0" = ⟨#[48]⟩ := by decide +kernel
theorem beq_emp (x : Str) : (x == Str.ofString "") = decide (nl x = []) := by
  rw [Bool.eq_iff_iff, beq_iff_eq, decide_eq_true_eq]
  exact ⟨fun h => by rw [h]; decide +kernel, nl_nil⟩
theorem nl_mul0 (n : Int) : nl (Txt.mul (Str.ofString "0") n) = List.replicate n.toNat 48 := by
  rw [nought_eq]; exact mul_one_list 48 n
theorem nl_zfill {x : Str} {i : Int} (h : ∀ c ∈ nl x, 48 ≤ c) (hi : 0 ≤ i) : nl (Txt.zfill x i) = List.replicate (i - (x.length : Int)).toNat 48 ++ nl x := by
  unfold Txt.zfill
  by_cases q : i ≤ x.length
  · rw [if_pos q, show (i - (x.length : Int)).toNat = 0 by omega]; rfl
  · rw [if_neg q]
    have e : PySem.zfilled x (i.toNat - x.length) = Builtin.Str.padded x (i.toNat - x.length) 0 48 := by
      unfold PySem.zfilled
      split
      · rename_i z
        have := h 43 (List.mem_of_getElem? (i := 0) (by rw [← z]; exact Array.getElem?_toList)); omega
      · rename_i z
        have := h 45 (List.mem_of_getElem? (i := 0) (by rw [← z]; exact Array.getElem?_toList)); omega
      · rfl
    rw [e]
    show (Array.replicate _ 48 ++ x.cps ++ Array.replicate 0 48).toList = _
    simp only [Array.toList_append, Array.toList_replicate, List.replicate_zero, List.append_nil]
    congr 2; omega
/-- the worth of figures -/
noncomputable abbrev dv (l : List Nat) : Nat := NumText.digitsVal l
theorem val_dv {x : Str} (h : NumText.AllDigits (nl x)) : val (KStt.codes x) = (dv (nl x) : Int) := by
  unfold KStt.codes
  show val (x.cps.toList.map _) = _
  have key : ∀ (l : List Nat) (a : Nat), NumText.AllDigits l → (l.map fun (c : Nat) => (c : Int)).foldl (fun n c => n * 10 + (c - 48)) (a : Int) = ((l.foldl (fun acc c => acc * 10 + (c - 48)) a : Nat) : Int) := by
    intro l
    induction l with
    | nil => intro a _; rfl
    | cons c r ih =>
      intro a h
      rw [List.map_cons, List.foldl_cons, List.foldl_cons, ← ih _ h.tail]
      congr 1
      have := h.head
      omega
  exact key _ 0 h
theorem dv_lt (l : List Nat) (h : NumText.AllDigits l) : dv l < 10 ^ l.length := by
  have key : ∀ (l : List Nat) (a : Nat), NumText.AllDigits l → l.foldl (fun acc c => acc * 10 + (c - 48)) a < (a + 1) * 10 ^ l.length := by
    intro l
    induction l with
    | nil => intro a _; simp
    | cons c r ih =>
      intro a h
      rw [List.foldl_cons]
      refine Nat.lt_of_lt_of_le (ih _ h.tail) ?_
      rw [List.length_cons, Nat.pow_succ, Nat.mul_comm (10 ^ r.length) 10, ← Nat.mul_assoc]
      refine Nat.mul_le_mul_right _ ?_
      have := h.head
      omega
  have := key l 0 h
  rw [Nat.zero_add, Nat.one_mul] at this
  exact this
theorem dv_zeros (k : Nat) (l : List Nat) : dv (List.replicate k 48 ++ l) = dv l := by
  induction k with
  | zero => rfl
  | succ n ih => rw [List.replicate_succ]; exact ih
/-- the figures of a number -/
theorem num_figs (n : Nat) : NumText.AllDigits (nl (Str.ofString (toString (n : Int)))) ∧ nl (Str.ofString (toString (n : Int))) ≠ [] ∧ dv (nl (Str.ofString (toString (n : Int)))) = n := by
  refine ⟨?_, ?_, ?_⟩
  · intro c hc
    have hc : c ∈ (Str.ofString (toString ((n : Nat) : Int))).cps.toList := hc
    rw [KIN.signs_num] at hc
    obtain ⟨ch, hch, e⟩ := List.mem_map.mp hc
    have r := digit_range (Nat.isDigit_of_mem_toDigits (by decide) (by decide) hch)
    rw [← e]
    exact r
  · show (Str.ofString (toString ((n : Nat) : Int))).cps.toList ≠ []
    rw [KIN.signs_num]
    intro e
    have h := toDigits_len_ge 10 n
    rw [List.map_eq_nil_iff.mp e] at h
    exact absurd h (by decide)
  · show NumText.digitsVal (Str.ofString (toString ((n : Nat) : Int))).cps.toList = n
    rw [KIN.signs_num, KIN.val_back]
end Og
/- part OgP2 -/
namespace Og
theorem odd_fold (tl : Str) (pt : Int) : ∀ (l acc : List Int), l.foldl (oddG tl pt) acc = acc ++ l.filter (oddB tl pt)
  | [], acc => by simp
  | k :: r, acc => by
    rw [List.foldl_cons, odd_fold tl pt r, List.filter_cons, oddG]
    split <;> simp
theorem range_cons (i : Int) (n : Nat) : rangeKs i (n + 1) = i :: rangeKs (i + 1) n := by
  unfold rangeKs
  rw [List.range_succ_eq_map, List.map_cons, List.map_map]
  congr 1
  · simp
  · refine List.map_congr_left fun j _ => ?_
    show i + ((j + 1 : Nat) : Int) = i + 1 + (j : Int)
    omega
theorem bad_odds {x tl : Str} {pt b : Int} : ∀ (n : Nat) (i : Int), (∀ j, i ≤ j → j < i + (n : Int) → okAt x (b + j) = !oddB tl pt j) →
    bad x n (b + i) = ((rangeKs i n).filter (oddB tl pt)).head?.map (b + ·)
  | 0, _, _ => rfl
  | n + 1, i, h => by
    have h0 := h i (Int.le_refl _) (by omega)
    rw [bad, range_cons, List.filter_cons]
    cases q : oddB tl pt i
    · rw [q] at h0
      rw [if_pos (by rw [h0]; rfl), if_neg (by decide), ← bad_odds n (i + 1) fun j a c => h j (by omega) (by omega)]
      congr 1; omega
    · rw [q] at h0
      rw [if_neg (by rw [h0]; decide), if_pos rfl]
      rfl
theorem figB_at {x : Str} {k : Int} {i c : Nat} (e : k = (i : Int)) (h : (nl x)[i]? = some c) : figB x k = decide (48 ≤ c ∧ c ≤ 57) := by
  unfold figB
  rw [item_eq x e h, empty1, Bool.not_not]
  exact decide_eq_decide.mpr mem_tens
theorem dotB_eq (x : Str) : dotB x = decide (46 ∈ nl x) := by
  unfold dotB
  rw [dot_eq, empty1, Bool.not_not]
/-- the sign and the rest of a text -/
structure Form (x : Str) (sg t : List Nat) : Prop where
  all : nl x = sg ++ t
  bg : bgI x = (sg.length : Int)
  tl : nl (tlS x) = t
  sgs : sg = [] ∨ sg = [43] ∨ sg = [45]
  mi : (Txt.slice x none (some 1) == Str.ofString "-") = decide (sg = [45])
theorem slice1 (x : Str) : nl (Txt.slice x none (some 1)) = (nl x).take 1 := nl_to x (by decide)
theorem beq_one {s : Str} {c : Nat} : (⟨#[c]⟩ == s) = decide (nl s = [c]) := by
  rw [Bool.eq_iff_iff, beq_iff_eq, decide_eq_true_eq]
  exact ⟨fun h => by rw [← h], fun h => nl_inj h.symm⟩
theorem beq_one' {s : Str} {c : Nat} : (s == ⟨#[c]⟩) = decide (nl s = [c]) := by
  rw [Bool.eq_iff_iff, beq_iff_eq, decide_eq_true_eq]
  exact ⟨fun h => by rw [h], fun h => nl_inj h⟩
theorem bg_any (x : Str) : ([Str.ofString "+", Str.ofString "-"].any fun y => y == Txt.slice x none (some 1)) = decide ((nl x).take 1 = [43] ∨ (nl x).take 1 = [45]) := by
  rw [List.any_cons, List.any_cons, List.any_nil, plus_eq, minus_eq, beq_one, beq_one, slice1, Bool.or_false, Bool.decide_or]
theorem form_of (x : Str) : ∃ sg t, Form x sg t := by
  by_cases h : (nl x).take 1 = [43] ∨ (nl x).take 1 = [45]
  · have hb : bgI x = 1 := if_pos (by rw [bg_any]; exact decide_eq_true h)
    refine ⟨(nl x).take 1, (nl x).drop 1, (List.take_append_drop 1 _).symm, ?_, ?_, .inr h, ?_⟩
    · rw [hb]; rcases h with h | h <;> rw [h] <;> rfl
    · rw [tlS, hb]; exact nl_from x (by decide)
    · rw [minus_eq, beq_one', slice1]
  · have hb : bgI x = 0 := if_neg (by rw [bg_any, decide_eq_false h]; decide)
    refine ⟨[], nl x, rfl, hb, ?_, .inl rfl, ?_⟩
    · rw [tlS, hb]; exact nl_from x (by decide)
    · rw [minus_eq, beq_one', slice1]
      exact decide_eq_decide.mpr ⟨fun q => absurd (.inr q) h, fun q => by cases q⟩
/-- the cut at the first point -/
inductive Cut (x : Str) (sg t : List Nat) : Prop
  | no (f : Form x sg t) (hn : 46 ∉ t) (hd : dotB (tlS x) = false) (ha : nl (ahS x) = t) (hb : nl (beS x) = []) (hp : Txt.find (tlS x) (Str.ofString ".") = -1) : Cut x sg t
  | yes (a b : List Nat) (f : Form x sg t) (ht : t = a ++ 46 :: b) (hn : 46 ∉ a) (hd : dotB (tlS x) = true) (ha : nl (ahS x) = a) (hb : nl (beS x) = b) (hp : Txt.find (tlS x) (Str.ofString ".") = (a.length : Int)) : Cut x sg t
theorem cut_no {x : Str} {sg t : List Nat} (f : Form x sg t) (hm : 46 ∉ t) : Cut x sg t := by
  have hd : dotB (tlS x) = false := by rw [dotB_eq, f.tl]; exact decide_eq_false hm
  refine .no f hm hd ?_ ?_ ?_
  · rw [ahS, hd]; exact f.tl
  · rw [beS, if_neg (by rw [hd]; decide)]; decide +kernel
  · rw [dot_eq]; exact find_none (by rw [f.tl]; exact hm)
theorem cut_yes {x : Str} {sg t a b : List Nat} (f : Form x sg t) (ht : t = a ++ 46 :: b) (hn : 46 ∉ a) : Cut x sg t := by
  have hd : dotB (tlS x) = true := by rw [dotB_eq, f.tl, ht]; exact decide_eq_true (by simp)
  have hp : Txt.find (tlS x) (Str.ofString ".") = (a.length : Int) := by rw [dot_eq]; exact find_some (f.tl.trans ht) hn
  refine .yes a b f ht hn hd ?_ ?_ hp
  · rw [ahS, if_pos hd, nl_to _ (by omega), f.tl, ht, hp]
    simp
  · rw [beS, if_pos hd, nl_from _ (by omega), f.tl, ht, hp]
    have : ((a.length : Int) + 1).toNat = a.length + 1 := by omega
    rw [this, ← List.drop_drop, List.drop_left]
    rfl
theorem cut_of {x : Str} {sg t : List Nat} (f : Form x sg t) : Cut x sg t := by
  by_cases hm : 46 ∈ t
  · obtain ⟨a, b, e, hn⟩ := split_at t 46 hm
    exact cut_yes f e hn
  · exact cut_no f hm
theorem form_len {x : Str} {sg t : List Nat} (f : Form x sg t) : (x.length : Int) = bgI x + (t.length : Int) := by
  rw [f.bg, ← nl_len, f.all, List.length_append]; omega
theorem form_at {x : Str} {sg t : List Nat} (f : Form x sg t) (i : Nat) : (nl x)[sg.length + i]? = t[i]? := by
  rw [f.all, List.getElem?_append_right (by omega)]
  congr 1; omega
theorem form_fig {x : Str} {sg t : List Nat} {c i : Nat} {k : Int} (f : Form x sg t) (h : t[i]? = some c) (e : k = bgI x + (i : Int)) : figB x k = decide (48 ≤ c ∧ c ≤ 57) :=
  figB_at (i := sg.length + i) (by rw [e, f.bg]; omega) ((form_at f i).trans h)
/-- all signs behind the sign well: figures ahead and behind -/
theorem figs_of {x : Str} (h : ∀ j, bgI x ≤ j → j < (x.length : Int) → okAt x j = true) : NumText.AllDigits (nl (ahS x)) ∧ NumText.AllDigits (nl (beS x)) := by
  obtain ⟨sg, t, f⟩ := form_of x
  have hl := form_len f
  have key : ∀ i c, t[i]? = some c → i ≠ (ahS x).length → 48 ≤ c ∧ c ≤ 57 := fun i c hc hne => by
    obtain ⟨hi, _⟩ := List.getElem?_eq_some_iff.mp hc
    have z := h (bgI x + (i : Int)) (by omega) (by omega)
    rw [okAt, form_fig f hc rfl, Bool.or_eq_true, decide_eq_true_eq, beq_iff_eq] at z
    rcases z with z | z
    · exact z
    · omega
  rcases cut_of f with ⟨_, hn, _, ha, hb, _⟩ | ⟨a, b, _, ht, hn, _, ha, hb, _⟩
  · rw [ha, hb]
    refine ⟨fun c hc => ?_, fun c hc => by cases hc⟩
    obtain ⟨i, hi⟩ := List.mem_iff_getElem?.mp hc
    obtain ⟨hi', _⟩ := List.getElem?_eq_some_iff.mp hi
    refine key i c hi ?_
    rw [← nl_len, ha]; omega
  · have hla : (ahS x).length = a.length := by rw [← nl_len, ha]
    rw [ha, hb]
    refine ⟨fun c hc => ?_, fun c hc => ?_⟩
    · obtain ⟨i, hi⟩ := List.mem_iff_getElem?.mp hc
      obtain ⟨hi', _⟩ := List.getElem?_eq_some_iff.mp hi
      exact key i c (by rw [ht, List.getElem?_append_left hi']; exact hi) (by omega)
    · obtain ⟨i, hi⟩ := List.mem_iff_getElem?.mp hc
      refine key (a.length + (i + 1)) c ?_ (by omega)
      rw [ht, List.getElem?_append_right (by omega)]
      have : a.length + (i + 1) - a.length = i + 1 := by omega
      rw [this, List.getElem?_cons_succ]; exact hi
theorem alldig_app {a b : List Nat} (ha : NumText.AllDigits a) (hb : NumText.AllDigits b) : NumText.AllDigits (a ++ b) := fun c hc => by
  rcases List.mem_append.mp hc with h | h
  · exact ha c h
  · exact hb c h
theorem figs_codes {y : Str} (h : NumText.AllDigits (nl y)) : Figs (KStt.codes y) := fun c hc => by
  obtain ⟨n, hn, rfl⟩ := List.mem_map.mp hc
  have := h n hn
  omega
theorem hfig (x : Str) : Hid ((∀ j, bgI x ≤ j → j < (x.length : Int) → okAt x j = true) → Figs (KStt.codes (ahS x ++ beS x))) := ⟨fun h => by
  obtain ⟨h1, h2⟩ := figs_of h
  exact figs_codes (by rw [nl_app]; exact alldig_app h1 h2)⟩
/-- well at place j: not among the odd ones -/
theorem ok_odd {x : Str} {sg t : List Nat} (f : Form x sg t) (j : Int) (h0 : 0 ≤ j) (h1 : j < (t.length : Int)) : okAt x (bgI x + j) = !oddB (tlS x) (Txt.find (tlS x) (Str.ofString ".")) j := by
  obtain ⟨i, rfl⟩ := Int.eq_ofNat_of_zero_le h0
  have hi : i < t.length := by omega
  have ht : t[i]? = some t[i] := List.getElem?_eq_getElem hi
  have e1 := form_fig f ht rfl
  have e2 : figB (tlS x) (i : Int) = decide (48 ≤ t[i] ∧ t[i] ≤ 57) := figB_at rfl (by rw [f.tl]; exact ht)
  have e3 : (Builtin.Str.occurrences (Str.ofString "0123456789") (Txt.item (tlS x) (i : Int)) 0 (Str.ofString "0123456789").length 1).isEmpty = !decide (48 ≤ t[i] ∧ t[i] ≤ 57) := by
    rw [← e2, figB, Bool.not_not]
  rw [okAt, e1, oddB, e3, Bool.not_and, Bool.not_not]
  congr 1
  rw [bne, Bool.not_not, Bool.eq_iff_iff, beq_iff_eq, beq_iff_eq]
  rcases cut_of f with ⟨_, hn, _, ha, hb, hp⟩ | ⟨a, b, _, ht, hn, _, ha, hb, hp⟩
  · have hla : (ahS x).length = t.length := by rw [← nl_len, ha]
    rw [hp]; omega
  · have hla : (ahS x).length = a.length := by rw [← nl_len, ha]
    rw [hp]; omega
theorem bad_eq {x : Str} {sg t : List Nat} (f : Form x sg t) : bad x ((x.length : Int) - bgI x).toNat (bgI x) = (odds (tlS x) (Txt.find (tlS x) (Str.ofString "."))).head?.map (bgI x + ·) := by
  have hl := form_len f
  have hl2 : (tlS x).length = t.length := by rw [← nl_len, f.tl]
  have e : ((x.length : Int) - bgI x).toNat = (((tlS x).length : Int) - 0).toNat := by omega
  have z := bad_odds (x := x) (tl := tlS x) (pt := Txt.find (tlS x) (Str.ofString ".")) (b := bgI x) (((tlS x).length : Int) - 0).toNat 0 fun j a c => ok_odd f j a (by omega)
  rw [e, odds, odd_fold, List.nil_append, ← z, Int.add_zero]
/-- the law's own reading is read_decimal's -/
theorem rd_eq {x : Str} (hne : nl x ≠ []) : rd x (tlS x) (Txt.find (tlS x) (Str.ofString ".")) (bgI x) (val (KStt.codes (ahS x ++ beS x))) ((beS x).length : Int) = rdD x := by
  obtain ⟨sg, t, f⟩ := form_of x
  have hl2 : (tlS x).length = t.length := by rw [← nl_len, f.tl]
  have c1 : (0 ≤ Txt.find (tlS x) (Str.ofString ".") ∧ Txt.find (tlS x) (Str.ofString ".") = ((tlS x).length : Int) - 1) ↔ (dotB (tlS x) = true ∧ (beS x == Str.ofString "") = true) := by
    rcases cut_of f with ⟨_, hn, hd, ha, hb, hp⟩ | ⟨a, b, _, ht, hn, hd, ha, hb, hp⟩
    · rw [hp, hd]
      exact ⟨fun q => absurd q.1 (by decide), fun q => by cases q.1⟩
    · rw [hp, hd, beq_emp, hb, decide_eq_true_eq, hl2, ht, List.length_append, List.length_cons]
      refine ⟨fun q => ⟨rfl, List.eq_nil_of_length_eq_zero (by omega)⟩, fun q => ?_⟩
      rw [q.2]; simp only [List.length_nil]; omega
  have c2 : ¬ (dotB (tlS x) = true ∧ (beS x == Str.ofString "") = true) → ((tlS x == Str.ofString "") = (ahS x ++ beS x == Str.ofString "")) := fun q => by
    rw [beq_emp, beq_emp, nl_app, f.tl]
    rcases cut_of f with ⟨_, hn, hd, ha, hb, hp⟩ | ⟨a, b, _, ht, hn, hd, ha, hb, hp⟩
    · rw [ha, hb, List.append_nil]
    · rw [hd, beq_emp, hb, decide_eq_true_eq] at q
      have q' : b ≠ [] := fun z => q ⟨rfl, z⟩
      rw [ha, hb, ht]
      refine decide_eq_decide.mpr ⟨fun z => ?_, fun z => ?_⟩
      · simp at z
      · exact absurd (List.append_eq_nil_iff.mp z).2 q'
  have c3 : (Txt.item x 0 == Str.ofString "-") = (Txt.slice x none (some 1) == Str.ofString "-") := by
    cases h : nl x with
    | nil => exact absurd h hne
    | cons c r =>
      rw [item_eq x (k := 0) (i := 0) (c := c) rfl (by rw [h]; rfl), minus_eq, beq_one', beq_one', slice1, h]
      rfl
  rw [rd, rdD]
  by_cases h1 : dotB (tlS x) = true ∧ (beS x == Str.ofString "") = true
  · rw [if_pos (c1.mpr h1), if_pos h1]
  · rw [if_neg fun q => h1 (c1.mp q), if_neg h1, c2 h1]
    by_cases h2 : (ahS x ++ beS x == Str.ofString "") = true
    · rw [if_pos h2, if_pos h2]
    · rw [if_neg h2, if_neg h2, bad_eq f, c3]
      cases q : odds (tlS x) (Txt.find (tlS x) (Str.ofString ".")) with
      | nil => rfl
      | cons k r => rfl
/-- what _law_read's int is asked -/
theorem int_asked {x : Str} (hl : x.length ≤ 100) (h : odds (tlS x) (Txt.find (tlS x) (Str.ofString ".")) = []) {y : Str} (hy : nl y = 48 :: (nl (ahS x) ++ nl (beS x))) : PySem.intText? y = some (val (KStt.codes (ahS x ++ beS x))) := by
  obtain ⟨sg, t, f⟩ := form_of x
  have hlen := form_len f
  have hall : ∀ j, bgI x ≤ j → j < (x.length : Int) → okAt x j = true := fun j h0 h1 => by
    have e := ok_odd f (j - bgI x) (by omega) (by omega)
    rw [show bgI x + (j - bgI x) = j by omega] at e
    rw [e, Bool.not_eq_true']
    cases q : oddB (tlS x) (Txt.find (tlS x) (Str.ofString ".")) (j - bgI x) with
    | false => rfl
    | true =>
      exfalso
      have hl2 : (tlS x).length = t.length := by rw [← nl_len, f.tl]
      rw [odds, odd_fold, List.nil_append] at h
      have m : (j - bgI x) ∈ rangeKs 0 (((tlS x).length : Int) - 0).toNat := List.mem_map.mpr ⟨(j - bgI x).toNat, List.mem_range.mpr (by omega), by omega⟩
      have := List.mem_filter.mpr ⟨m, q⟩
      rw [h] at this
      cases this
  obtain ⟨h1, h2⟩ := figs_of hall
  have hd : NumText.AllDigits (nl (ahS x ++ beS x)) := by rw [nl_app]; exact alldig_app h1 h2
  have hy' : NumText.AllDigits (nl y) := by
    rw [hy]
    intro c hc
    rcases List.mem_cons.mp hc with rfl | hc
    · decide
    · rw [nl_app] at hd; exact hd c hc
  have hle : (nl (ahS x)).length + (nl (beS x)).length ≤ t.length := by
    rcases cut_of f with ⟨_, hn, hd, ha, hb, hp⟩ | ⟨a, b, _, ht, hn, hd, ha, hb, hp⟩
    · rw [ha, hb]; simp
    · rw [ha, hb, ht]; simp
  have e := PySem.intText_digits (x := y) hy' (by show nl y ≠ []; rw [hy]; simp) (by
    rw [← nl_len, hy, List.length_cons, List.length_append]
    have : (0 : Int) ≤ bgI x := by rw [f.bg]; omega
    omega)
  rw [e, val_dv hd, nl_app]
  show some ((NumText.digitsVal (nl y) : Nat) : Int) = _
  rw [hy]
  rfl
end Og
/- part OgP3 -/
namespace Og
theorem nrm_facts : ∀ (n : Nat) (u : Int), 0 ≤ (nrm u n).2 ∧ (nrm u n).2 ≤ (n : Int) ∧ ((nrm u n).2 = 0 ∨ (nrm u n).1 % 10 ≠ 0) ∧ (nrm u n).1.natAbs ≤ u.natAbs
  | 0, u => ⟨Int.le_refl _, Int.le_refl _, .inl rfl, Nat.le_refl _⟩
  | n + 1, u => by
    rw [nrm]
    split
    · obtain ⟨a, b, c, d⟩ := nrm_facts n (u / 10)
      exact ⟨a, by omega, c, by omega⟩
    · rename_i h
      exact ⟨by show (0 : Int) ≤ (n : Int) + 1; omega, by show (n : Int) + 1 ≤ ((n + 1 : Nat) : Int); omega, .inr h, Nat.le_refl _⟩
theorem nrm_done {u s : Int} (h0 : 0 ≤ s) (h : s = 0 ∨ u % 10 ≠ 0) : nrm u s.toNat = (u, s) := by
  obtain ⟨n, rfl⟩ := Int.eq_ofNat_of_zero_le h0
  rw [Int.toNat_natCast]
  cases n with
  | zero => rfl
  | succ n =>
    rw [nrm, if_neg]
    · rfl
    · rcases h with h | h
      · omega
      · exact h
/-- what decimal gives: its scale lies in bounds, it is decimal's own answer to itself, its units stay small -/
theorem dec_facts {u0 s0 u s : Int} (e : dec u0 s0 = (u, s)) (h0 : -5 ≤ s0) : 0 ≤ s ∧ (s ≤ s0 ∨ s = 0) ∧ dec u s = (u, s) ∧ u.natAbs ≤ u0.natAbs * 10 ^ 5 := by
  unfold dec at e
  split at e
  · rename_i h
    obtain ⟨rfl, rfl⟩ := Prod.mk.inj e
    refine ⟨Int.le_refl _, .inr rfl, rfl, ?_⟩
    rw [Int.natAbs_mul]
    refine Nat.mul_le_mul_left _ ?_
    have : s0 = -1 ∨ s0 = -2 ∨ s0 = -3 ∨ s0 = -4 ∨ s0 = -5 := by omega
    rcases this with h | h | h | h | h <;> subst h <;> decide
  · rename_i h
    obtain ⟨a, b, c, d⟩ := nrm_facts s0.toNat u0
    rw [e] at a b c d
    dsimp only at a b c d
    refine ⟨a, .inl (by omega), ?_, ?_⟩
    · rw [dec, if_neg (by omega)]; exact nrm_done a c
    · refine Nat.le_trans d (Nat.le_mul_of_pos_right _ (by decide))
section
variable {x y : Int} {fs : Str}
/-- the figures with the noughts ahead of them -/
noncomputable abbrev pad (fs : Str) (y : Int) : Str := Txt.mul (Str.ofString "0") (y + 1 - (fs.length : Int)) ++ fs
theorem nl_pad : nl (pad fs y) = List.replicate (y + 1 - (fs.length : Int)).toNat 48 ++ nl fs := by rw [nl_app, nl_mul0]
theorem pad_zfill (hd : NumText.AllDigits (nl fs)) (hy : 0 ≤ y) : Txt.zfill fs (y + 1) = pad fs y :=
  nl_inj (by rw [nl_zfill (fun c hc => (hd c hc).1) (by omega), nl_pad])
theorem pad_len : ((pad fs y).length : Int) = ((y + 1 - (fs.length : Int)).toNat : Int) + (fs.length : Int) := by
  rw [← nl_len, nl_pad, List.length_append, List.length_replicate, nl_len]; omega
theorem nl_wrBody : nl (wrBody fs y) = if 0 < y then (nl (pad fs y)).take ((pad fs y).length - y.toNat) ++ 46 :: (nl (pad fs y)).drop ((pad fs y).length - y.toNat) else nl fs := by
  rw [wrBody]
  split
  · have hp := pad_len (fs := fs) (y := y)
    have e : (((pad fs y).length : Int) - y).toNat = (pad fs y).length - y.toNat := by omega
    show nl (Txt.slice (pad fs y) none (some (((pad fs y).length : Int) - y)) ++ Str.ofString "." ++ Txt.slice (pad fs y) (some (((pad fs y).length : Int) - y)) none) = _
    rw [nl_app, nl_app, nl_to _ (by omega), nl_from _ (by omega), e, dot_eq]
    rw [List.append_assoc]
    rfl
  · rfl
theorem sh_wr (hd : NumText.AllDigits (nl fs)) (h1 : nl fs ≠ []) (hy : 0 ≤ y) : sh x fs y = wr x fs y := by
  have hp := pad_len (fs := fs) (y := y)
  have hl : 1 ≤ fs.length := by rw [← nl_len]; exact List.length_pos_iff.mpr h1
  have hA : (shA (pad fs y) y).length = (pad fs y).length - y.toNat := by
    rw [shA, ← nl_len, nl_to _ (by omega), List.length_take, nl_len]; omega
  have body : shA (pad fs y) y ++ shB (pad fs y) y = wrBody fs y := by
    by_cases q : 0 < y
    · rw [shB_p q, wrBody, if_pos q, hA, shA]
      refine nl_inj ?_
      simp only [nl_app, List.append_assoc]
      congr 3
      rw [show (((pad fs y).length - y.toNat : Nat) : Int) = ((pad fs y).length : Int) - y by omega]
    · obtain rfl : y = 0 := by omega
      rw [shB_z (by decide), wrBody, if_neg (by decide), shA]
      refine nl_inj ?_
      rw [nl_app, nl_to _ (by omega), List.take_of_length_le (by rw [nl_len]; omega), nl_pad, show (0 + 1 - (fs.length : Int)).toNat = 0 by omega]
      have : nl (Str.ofString "") = [] := by decide +kernel
      rw [this, List.append_nil]; rfl
  rw [sh, pad_zfill hd hy, wr, ← body]
  by_cases q : x < 0
  · rw [shS_n q, if_pos q]
    refine nl_inj ?_
    simp only [nl_app, List.append_assoc]
  · rw [shS_p (by omega), if_neg q]
    refine nl_inj ?_
    have : nl (Str.ofString "") = [] := by decide +kernel
    simp only [nl_app, this, List.nil_append]
end
theorem form_pos {x : Str} (h : (nl x).take 1 = [43] ∨ (nl x).take 1 = [45]) : Form x ((nl x).take 1) ((nl x).drop 1) := by
  have hb : bgI x = 1 := if_pos (by rw [bg_any]; exact decide_eq_true h)
  refine ⟨(List.take_append_drop 1 _).symm, ?_, ?_, .inr h, ?_⟩
  · rw [hb]; rcases h with h | h <;> rw [h] <;> rfl
  · rw [tlS, hb]; exact nl_from x (by decide)
  · rw [minus_eq, beq_one', slice1]
theorem form_neg {x : Str} (h : ¬ ((nl x).take 1 = [43] ∨ (nl x).take 1 = [45])) : Form x [] (nl x) := by
  have hb : bgI x = 0 := if_neg (by rw [bg_any, decide_eq_false h]; decide)
  refine ⟨rfl, hb, ?_, .inl rfl, ?_⟩
  · rw [tlS, hb]; exact nl_from x (by decide)
  · rw [minus_eq, beq_one', slice1]
    exact decide_eq_decide.mpr ⟨fun q => absurd (.inr q) h, fun q => by cases q⟩
theorem form_minus {x : Str} {t : List Nat} (h : nl x = 45 :: t) : Form x [45] t := by
  have f := form_pos (x := x) (.inr (by rw [h]; rfl))
  rw [h] at f
  exact f
theorem form_dig {x : Str} {c : Nat} {t : List Nat} (h : nl x = c :: t) (hc : 48 ≤ c ∧ c ≤ 57) : Form x [] (c :: t) := by
  rw [← h]
  refine form_neg ?_
  rw [h]
  rintro (q | q)
  · have := (List.cons.inj q).1; omega
  · have := (List.cons.inj q).1; omega
/-- a text of a sign, figures and perhaps a point with figures behind it is read -/
theorem read_back {x : Str} {sg t a b : List Nat} (f : Form x sg t) (ht : (t = a ∧ b = []) ∨ (t = a ++ 46 :: b ∧ b ≠ [])) (ha : NumText.AllDigits a) (hb : NumText.AllDigits b) (hne : a ≠ []) :
    rdD x = .inr (if sg = [45] then -(dv (a ++ b) : Int) else (dv (a ++ b) : Int), (b.length : Int)) := by
  have no46 : 46 ∉ a := fun h => by have := ha 46 h; omega
  obtain ⟨e1, e2, hc⟩ : nl (ahS x) = a ∧ nl (beS x) = b ∧ ¬ (dotB (tlS x) = true ∧ (beS x == Str.ofString "") = true) := by
    rcases ht with ⟨h1, h2⟩ | ⟨h1, h2⟩
    · subst h1; subst h2
      rcases cut_no f no46 with ⟨_, hn, hd, ha', hb', hp⟩ | ⟨a', b', _, ht', hn, hd, ha', hb', hp⟩
      · exact ⟨ha', hb', fun q => by rw [hd] at q; cases q.1⟩
      · exact absurd (by rw [ht']; simp) no46
    · rcases cut_yes f h1 no46 with ⟨_, hn, hd, ha', hb', hp⟩ | ⟨a', b', _, ht', hn, hd, ha', hb', hp⟩
      · exact absurd (by rw [h1]; simp) hn
      · have hz : a = a' ∧ b = b' := by
          have z := h1.symm.trans ht'
          have l1 : a.length = a'.length := by
            rcases Nat.lt_trichotomy a.length a'.length with q | q | q
            · exfalso
              have g1 : (a ++ 46 :: b)[a.length]? = some 46 := by simp
              rw [z, List.getElem?_append_left q] at g1
              exact hn (List.mem_of_getElem? g1)
            · exact q
            · exfalso
              have g1 : (a' ++ 46 :: b')[a'.length]? = some 46 := by simp
              rw [← z, List.getElem?_append_left q] at g1
              exact no46 (List.mem_of_getElem? g1)
          obtain ⟨z1, z2⟩ := List.append_inj z l1
          exact ⟨z1, (List.cons.inj z2).2⟩
        refine ⟨ha'.trans hz.1.symm, hb'.trans hz.2.symm, fun q => h2 ?_⟩
        have q2 := q.2
        rw [beq_emp, hb', decide_eq_true_eq] at q2
        rw [hz.2]; exact q2
  have hla : (ahS x).length = a.length := by rw [← nl_len, e1]
  have hlb : (beS x).length = b.length := by rw [← nl_len, e2]
  have hd : NumText.AllDigits (nl (ahS x ++ beS x)) := by rw [nl_app, e1, e2]; exact alldig_app ha hb
  have hlen := form_len f
  have hall : ∀ j, bgI x ≤ j → j < bgI x + (((x.length : Int) - bgI x).toNat : Int) → okAt x j = true := fun j h0 h1 => by
    obtain ⟨i, hi⟩ := Int.eq_ofNat_of_zero_le (a := j - bgI x) (by omega)
    have hi' : i < t.length := by omega
    obtain ⟨c, hg⟩ : ∃ c, t[i]? = some c := ⟨_, List.getElem?_eq_getElem hi'⟩
    rw [okAt, form_fig f hg (by omega), Bool.or_eq_true, decide_eq_true_eq, beq_iff_eq, hla]
    by_cases q : i = a.length
    · right; omega
    · left
      rcases ht with ⟨h1, h2⟩ | ⟨h1, h2⟩
      · rw [h1] at hg; exact ha _ (List.mem_of_getElem? hg)
      · rw [h1] at hg
        by_cases q2 : i < a.length
        · rw [List.getElem?_append_left q2] at hg
          exact ha _ (List.mem_of_getElem? hg)
        · rw [List.getElem?_append_right (by omega)] at hg
          obtain ⟨n, hn⟩ : ∃ n, i - a.length = n + 1 := ⟨i - a.length - 1, by omega⟩
          rw [hn, List.getElem?_cons_succ] at hg
          exact hb _ (List.mem_of_getElem? hg)
  rw [rdD, if_neg hc, if_neg (by rw [beq_emp, nl_app, e1, e2, decide_eq_true_eq]; exact fun q => hne (List.append_eq_nil_iff.mp q).1), bad_none _ _ hall, f.mi, val_dv hd, nl_app, e1, e2, hlb]
  dsimp only
  by_cases q : sg = [45]
  · rw [if_pos q, if_pos (decide_eq_true q)]
  · rw [if_neg q, if_neg (by rw [decide_eq_false q]; decide)]
/-- what write_decimal writes is read as it was -/
theorem wr_back {u s : Int} {fs : Str} (hf : Str.ofString (toString (if u < 0 then -u else u)) = fs) (hs : 0 ≤ s) : rdD (wr u fs s) = .inr (u, s) := by
  obtain ⟨n, hn⟩ : ∃ n : Nat, (if u < 0 then -u else u) = (n : Int) := ⟨u.natAbs, by split <;> omega⟩
  rw [hn] at hf
  obtain ⟨hd, h1, hv⟩ := num_figs n
  rw [hf] at hd h1 hv
  have hp := pad_len (fs := fs) (y := s)
  have hl : 1 ≤ fs.length := by rw [← nl_len]; exact List.length_pos_iff.mpr h1
  have hdp : NumText.AllDigits (nl (pad fs s)) := by
    rw [nl_pad]
    refine alldig_app (fun c hc => ?_) hd
    rw [(List.mem_replicate.mp hc).2]; decide
  obtain ⟨a, b, t, ht, hab, hA, hlb, hbody⟩ : ∃ a b t : List Nat, ((t = a ∧ b = []) ∨ (t = a ++ 46 :: b ∧ b ≠ [])) ∧ a ++ b = nl (pad fs s) ∧ a ≠ [] ∧ (b.length : Int) = s ∧ nl (wrBody fs s) = t := by
    rw [nl_wrBody]
    split
    · rename_i q
      have hlen : ((nl (pad fs s)).drop ((pad fs s).length - s.toNat)).length = s.toNat := by rw [List.length_drop, nl_len]; omega
      refine ⟨_, _, _, .inr ⟨rfl, ?_⟩, List.take_append_drop _ _, ?_, ?_, rfl⟩
      · intro z; rw [z] at hlen; simp only [List.length_nil] at hlen; omega
      · intro z
        have : ((nl (pad fs s)).take ((pad fs s).length - s.toNat)).length = (pad fs s).length - s.toNat := by rw [List.length_take, nl_len]; omega
        rw [z] at this; simp only [List.length_nil] at this; omega
      · rw [hlen]; omega
    · rename_i q
      obtain rfl : s = 0 := by omega
      refine ⟨nl fs, [], _, .inl ⟨rfl, rfl⟩, ?_, h1, rfl, rfl⟩
      rw [nl_pad, show (0 + 1 - (fs.length : Int)).toNat = 0 by omega, List.append_nil]; rfl
  have hda : NumText.AllDigits a := fun c hc => hdp c (by rw [← hab]; exact List.mem_append_left _ hc)
  have hdb : NumText.AllDigits b := fun c hc => hdp c (by rw [← hab]; exact List.mem_append_right _ hc)
  have hdv : dv (a ++ b) = n := by rw [hab, nl_pad, dv_zeros, hv]
  by_cases q : u < 0
  · have f : Form (wr u fs s) [45] t := form_minus (by rw [wr, if_pos q, nl_app, hbody, minus_eq]; rfl)
    rw [read_back f ht hda hdb hA, if_pos rfl, hdv, hlb, ← hn, if_pos q]
    congr 2; omega
  · obtain ⟨c, r, hc⟩ : ∃ c r, a = c :: r := by
      cases a with
      | nil => exact absurd rfl hA
      | cons c r => exact ⟨c, r, rfl⟩
    obtain ⟨r', hr'⟩ : ∃ r', t = c :: r' := by
      rcases ht with ⟨z, _⟩ | ⟨z, _⟩
      · exact ⟨r, by rw [z, hc]⟩
      · exact ⟨r ++ 46 :: b, by rw [z, hc]; rfl⟩
    have f : Form (wr u fs s) [] t := by
      rw [hr']
      exact form_dig (by rw [wr, if_neg q, hbody, hr']) (hda c (by rw [hc]; exact List.mem_cons_self ..))
    rw [read_back f ht hda hdb hA, if_neg (by decide), hdv, hlb, ← hn, if_neg q]
theorem wr_len {u s : Int} {fs : Str} (hs : 0 ≤ s ∧ s ≤ 90) (hl : 1 ≤ fs.length ∧ fs.length ≤ 90) : (wr u fs s).length ≤ 93 := by
  have hp := pad_len (fs := fs) (y := s)
  have hb : (wrBody fs s).length ≤ 92 := by
    rw [← nl_len, nl_wrBody]
    split
    · rw [List.length_append, List.length_cons, List.length_take, List.length_drop, nl_len]; omega
    · rw [nl_len]; omega
  rw [wr]
  split
  · rw [Str.length_append]
    have : (Str.ofString "-").length = 1 := by decide +kernel
    omega
  · omega
theorem bad_all {x : Str} : ∀ (n : Nat) (k : Int), bad x n k = none → ∀ j, k ≤ j → j < k + (n : Int) → okAt x j = true
  | 0, k, _, j, a, b => by omega
  | n + 1, k, h, j, a, b => by
    rw [bad] at h
    split at h
    · rename_i q
      by_cases e : j = k
      · rw [e]; exact q
      · exact bad_all n (k + 1) h j (by omega) (by omega)
    · cases h
/-- what is read is small -/
theorem rd_small {x : Str} {u s : Int} (h : rdD x = .inr (u, s)) (hl : x.length ≤ 60) : 0 ≤ s ∧ s ≤ 60 ∧ u.natAbs < 10 ^ 60 := by
  obtain ⟨sg, t, f⟩ := form_of x
  have hlen := form_len f
  have hle : (nl (ahS x)).length + (nl (beS x)).length ≤ t.length := by
    rcases cut_of f with ⟨_, hn, hd, ha, hb, hp⟩ | ⟨a, b, _, ht, hn, hd, ha, hb, hp⟩
    · rw [ha, hb]; simp
    · rw [ha, hb, ht]; simp
  have hb0 : (0 : Int) ≤ bgI x := by rw [f.bg]; omega
  rw [rdD] at h
  split at h
  · cases h
  · split at h
    · cases h
    · split at h
      · cases h
      · rename_i hbad
        have hall := bad_all _ _ hbad
        obtain ⟨h1, h2⟩ := figs_of (x := x) fun j a c => hall j a (by omega)
        have hd : NumText.AllDigits (nl (ahS x ++ beS x)) := by rw [nl_app]; exact alldig_app h1 h2
        have hv := dv_lt _ hd
        have hlt : (nl (ahS x ++ beS x)).length ≤ 60 := by rw [nl_app, List.length_append]; omega
        have hp := Nat.pow_le_pow_right (n := 10) (by decide) hlt
        obtain ⟨e1, e2⟩ := Prod.mk.inj (Sum.inr.inj h)
        rw [val_dv hd] at e1
        rw [← nl_len] at e2
        refine ⟨by omega, by omega, ?_⟩
        generalize (10 : Nat) ^ 60 = P at *
        split at e1 <;> omega
end Og
/- part OgQ -/
namespace Og
theorem strip_one : ∀ c : Nat, c < 128 → signB (c : Int) = true → ((Txt.lstripChars ⟨#[c]⟩ (Str.ofString "0123456789. x")).length : Int) = if c = 43 ∨ c = 45 then 1 else 0 := by decide +kernel
theorem strip_sign {x : Str} (ha : Alpha x) (hne : nl x ≠ []) : ((Txt.lstripChars (Txt.slice x none (some 1)) (Str.ofString "0123456789. x")).length : Int) = bgI x := by
  cases h : nl x with
  | nil => exact absurd h hne
  | cons c r =>
    have hs : Txt.slice x none (some 1) = ⟨#[c]⟩ := nl_inj (by rw [slice1, h]; rfl)
    have hb : bgI x = if c = 43 ∨ c = 45 then 1 else 0 := by
      rw [bgI, bg_any, h]
      by_cases q : c = 43 ∨ c = 45
      · rw [if_pos q, if_pos]
        exact decide_eq_true (by rcases q with q | q <;> subst q <;> simp)
      · rw [if_neg q, if_neg]
        rw [decide_eq_false]
        · decide
        · rintro (z | z)
          · exact q (.inl (List.cons.inj z).1)
          · exact q (.inr (List.cons.inj z).1)
    have hc : Sign (c : Int) := ha _ (List.mem_map.mpr ⟨c, by show c ∈ nl x; rw [h]; exact List.mem_cons_self .., rfl⟩)
    rw [hs, hb]
    have hm : c < 128 := by unfold Sign at hc; omega
    exact strip_one c hm (of_sign hc)
theorem bgI_01 (x : Str) : 0 ≤ bgI x ∧ bgI x ≤ 1 := by
  rw [bgI]; split <;> omega
/-- _law_read at a text of the law's signs: what read_decimal reads -/
theorem read_all (w : World) (x : Str) (ha : Alpha x) (hl : x.length ≤ 30) : Hid (∀ tx, Con w 1 124 [.str x tx] (fun h₀ L m news s Q => RetR h₀ L m news s Q (rdD x))) := by
  refine ⟨fun tx => ?_⟩
  by_cases hne : nl x = []
  · obtain rfl := nl_nil hne
    have e : rdD (Str.ofString "") = .inl 0 := by decide +kernel
    rw [e]
    exact c_read0 w tx
  · obtain ⟨sg, t, f⟩ := form_of x
    have hlen := form_len f
    have hb1 := bgI_01 x
    have hb := strip_sign ha hne
    have hx : (x != Str.ofString "") = true := by rw [bne, beq_emp, decide_eq_false hne]; rfl
    have ht : (tlS x).length = t.length := by rw [← nl_len, f.tl]
    have e := rd_eq hne
    rcases cut_of f with ⟨_, hn, hd, h1, h2, hp⟩ | ⟨a, b, _, ht', hn, hd, h1, h2, hp⟩
    · have z : ((beS x).length : Int) = 0 := by rw [← nl_len, h2]; rfl
      rw [z] at e
      rw [← e]
      refine c_readM w x (tlS x) tx (bgI x) _ _ hx hb hb1 rfl rfl (by omega) (by omega) (by rw [hp]; decide) fun q => ?_
      refine int_asked (by omega) (of_decide_eq_true q) ?_
      have z0 : nl (Str.ofString "") = [] := by decide +kernel
      have z1 : nl (Str.ofString "0") = [48] := by decide +kernel
      rw [nl_app, nl_app, z0, z1, f.tl, h1, h2]
      rfl
    · have e1 : Txt.slice (tlS x) none (some (Txt.find (tlS x) (Str.ofString "."))) = ahS x := by rw [ahS, if_pos hd]
      have e2 : Txt.slice (tlS x) (some (Txt.find (tlS x) (Str.ofString ".") + 1)) none = beS x := by rw [beS, if_pos hd]
      have l1 : (ahS x).length = a.length := by rw [← nl_len, h1]
      have l2 : (beS x).length = b.length := by rw [← nl_len, h2]
      have l3 : t.length = a.length + (b.length + 1) := by rw [ht', List.length_append, List.length_cons]
      rw [← e]
      refine c_readP w x (tlS x) (ahS x) (beS x) tx (bgI x) _ _ hx hb hb1 rfl rfl (by omega) (by omega) (by rw [hp]; omega) e1 e2 (by omega) (by omega) fun q => ?_
      refine int_asked (by omega) (of_decide_eq_true q) ?_
      have z1 : nl (Str.ofString "0") = [48] := by decide +kernel
      rw [nl_app, nl_app, z1]
      rfl
theorem fs_facts {u : Int} {fs : Str} (hf : Str.ofString (toString (if u < 0 then -u else u)) = fs) (hu : u.natAbs < 10 ^ 80) : NumText.AllDigits (nl fs) ∧ nl fs ≠ [] ∧ 1 ≤ fs.length ∧ fs.length ≤ 81 := by
  obtain ⟨n, hn⟩ : ∃ n : Nat, (if u < 0 then -u else u) = (n : Int) := ⟨u.natAbs, by split <;> omega⟩
  rw [hn] at hf
  obtain ⟨hd, h1, hv⟩ := num_figs n
  rw [hf] at hd h1 hv
  refine ⟨hd, h1, ?_, ?_⟩
  · rw [← nl_len]; exact List.length_pos_iff.mpr h1
  · have := int_text_length_le10 (a := (n : Int)) (k := 80) (by decide) (by
      rw [Int.natAbs_natCast]
      have : n = u.natAbs := by split at hn <;> omega
      rw [this]; exact hu)
    rw [← nl_len, ← hf]
    show (Str.ofString (toString ((n : Nat) : Int))).cps.toList.length ≤ 81
    rw [signs_ofString, List.length_map]
    exact this
/-- what is known of a pair that decimal gave: write_decimal and _law_shown write one text, and it is read back -/
theorem pair_facts (w : World) {u0 s0 u s : Int} (e : dec u0 s0 = (u, s)) (h0 : -5 ≤ s0 ∧ s0 ≤ 90) (hu : u0.natAbs < 10 ^ 75) :
    ∃ y, Hid (ConW w 91 u s y) ∧ Hid (ConW w 131 u s y) ∧ Hid (∀ tx, ConP w 84 [.str y tx] u s) := by
  obtain ⟨a, b, c, d⟩ := dec_facts e h0.1
  have hu' : u.natAbs < 10 ^ 80 := by
    refine Nat.lt_of_le_of_lt d ?_
    rw [show (80 : Nat) = 75 + 5 from rfl, Nat.pow_add]
    exact Nat.mul_lt_mul_of_pos_right hu (by decide)
  have hu2 : u.natAbs < 10 ^ 100 := Nat.lt_of_lt_of_le hu' (Nat.pow_le_pow_right (by decide) (by decide))
  obtain ⟨fs, hf⟩ : ∃ fs, Str.ofString (toString (if u < 0 then -u else u)) = fs := ⟨_, rfl⟩
  obtain ⟨hd, h1, l1, l2⟩ := fs_facts hf hu'
  have hs : 0 ≤ s ∧ s ≤ 90 := ⟨a, by omega⟩
  refine ⟨wr u fs s, ⟨fun D tx ty c => c_write w D u s tx ty c (by omega) hu2 fs hf (by omega)⟩, ⟨fun D tx ty c => ?_⟩, ⟨fun tx => conp_of (r_of (wr_back hf a) (c_rd w _ tx ?_ (hfig _))) c⟩⟩
  · rw [← sh_wr hd h1 a]
    exact c_shown w D u s tx ty c (by omega) hu2 fs hf (by omega)
  · exact Nat.le_trans (wr_len hs (by omega)) (by decide)
where
  r_of {w : World} {f : Addr} {vs : List Value} {r r' : Int ⊕ (Int × Int)} (e : r = r') (h : ConE w f vs r) : ConE w f vs r' := e ▸ h
/-- _law_right at a text of the law's signs: True -/
theorem right_all (w : World) (x : Str) (tx : Tok) (ha : Alpha x) (hl : x.length ≤ 30) : ConR w 138 [.str x tx] (fun h₀ L m news s Q => RetB h₀ L m news s Q true) := by
  have hread := read_all w x ha hl
  have hrd : Hid (∀ tx, ConE w 84 [.str x tx] (rdD x)) := ⟨fun tx => c_rd w x tx (by omega) (hfig x)⟩
  cases h : rdD x with
  | inl k =>
    rw [h] at hread hrd
    exact c_right1 w x tx k hrd hread
  | inr p =>
    obtain ⟨u0, s0⟩ := p
    obtain ⟨b1, b2, b3⟩ := rd_small h (by omega)
    rw [h] at hread hrd
    obtain ⟨u, s, e⟩ : ∃ u s, dec u0 s0 = (u, s) := ⟨_, _, rfl⟩
    obtain ⟨y, w1, w2, w3⟩ := pair_facts w e (by omega) (Nat.lt_of_lt_of_le b3 (Nat.pow_le_pow_right (by decide) (by decide)))
    refine c_right2 w x y tx u0 s0 u s ⟨fun tx => conp_of (hrd.out tx) e⟩ hread ⟨fun tx ty => ?_⟩ w1 w2 w3
    have z := c_plain w u0 s0 tx ty (by omega)
    rw [e] at z
    exact z
end Og
/- part OgN -/
namespace Og
theorem conr_use {w : World} {x : Str} {tx : Tok} (h : ConR w 138 [.str x tx] (fun h₀ L m news s Q => RetB h₀ L m news s Q true))
    {prog : Program} {mean : ExcName → Option Value} {mg mb : Str → Option Value} {dp un : Nat} {gd : Option (List Code)} {cn : Str} {cs : Scope} {a : Addr} {ccd : Value} {A₀ : Around} {base h₀ : Heap} {L : Addr} {m : Str → Option Value} {news : List (Addr × Obj)} {s : Shared} {Q E : Value → Shared → Prop}
    (B : Below A₀ base [] h₀) (F : Fr h₀ L s.heap m) (X : (Og.KX w.params).In h₀) (N : News h₀ L s.heap news) (T : Top Og.hd.view_39 lo₀ mean mg mb h₀) (XB : (Og.KX w.params).In base) (TB : Top Og.hd.view_39 lo₀ mean mg mb base) (hk : cs.kind = .function) (hd : dp ≤ 350) (hu : un ≤ 200) (p : RetB h₀ L m news s Q true) :
    wpAny (model prog w) (ktrTop dp un gd cn cs L a ccd [] []) (call (.ref 138) [.str x tx]) Q E s := h _ _ _ _ _ _ _ _ _ _ _ _ _ _ _ _ _ _ _ _ B F X N T XB TB hk hd hu p
/-- _law_decimal upon any script: some pair in bounds -/
noncomputable abbrev RetX (h₀ : Heap) (L : Addr) (m : Str → Option Value) (news : List (Addr × Obj)) (s : Shared) (Q : Value → Shared → Prop) : Prop :=
  ∀ (x y : Int), Hid (x.natAbs < 10 ^ 75) → Hid (-5 ≤ y ∧ y ≤ 18) → RetP h₀ L m news s Q x y
theorem c_ldecX (w : World) (l : Addr) (vs : List Value) (ns : List Int) (t0 : Tok) (hi : IntsAre vs ns) (hn : ns.length ≤ 63) :
    Con w 1 98 [.ref l, .int 0 t0] (fun h₀ L m news s Q => h₀.IsList l vs.toArray ∧ RetX h₀ L m news s Q) := by
  have z := c_ldec w l vs ns t0 hi hn
  unfold Con at z ⊢
  intro prog mean mg mb dp un gd cn cs a ccd cl outer A₀ base h₀ L m news s Q E B F X N T hk hd hu ⟨h1, h2⟩
  refine z _ _ _ _ _ _ _ _ _ _ _ _ _ _ _ _ _ _ _ _ _ _ B F X N T hk hd hu ⟨h1, h2 _ _ ⟨ldU_bound _ _⟩ ⟨ldS_bound (lG ns)⟩⟩
theorem c_dec (w : World) (x y : Int) (tx ty : Tok) (hy : -5 ≤ y ∧ y ≤ 100) : Con w 1 70 [.int x tx, .int y ty] (fun h₀ L m news s Q => RetP h₀ L m news s Q (dec x y).1 (dec x y).2) := by
  by_cases q : y < 0
  · exact c_decN w x y tx ty ⟨hy.1, q⟩
  · exact c_dec0 w x y tx ty (by omega)
/-- decimal upon a pair in bounds: a pair that is written and read back -/
noncomputable abbrev RetY (w : World) (h₀ : Heap) (L : Addr) (m : Str → Option Value) (news : List (Addr × Obj)) (s : Shared) (Q : Value → Shared → Prop) : Prop :=
  ∀ (u sc : Int) (y : Str), Hid (ConW w 91 u sc y) → Hid (ConW w 131 u sc y) → Hid (∀ tx, ConP w 84 [.str y tx] u sc) → RetP h₀ L m news s Q u sc
theorem c_decY (w : World) (x y : Int) (tx ty : Tok) (b : Hid (x.natAbs < 10 ^ 75)) (b' : Hid (-5 ≤ y ∧ y ≤ 18)) : Con w 1 70 [.int x tx, .int y ty] (fun h₀ L m news s Q => RetY w h₀ L m news s Q) := by
  have b1 := b.out
  obtain ⟨b2, b3⟩ := b'.out
  have z := c_dec w x y tx ty (by omega)
  obtain ⟨u, sc, e⟩ : ∃ u sc, dec x y = (u, sc) := ⟨_, _, rfl⟩
  obtain ⟨t, w1, w2, w3⟩ := pair_facts w e (by omega) b1
  rw [e] at z
  unfold Con at z ⊢
  intro prog mean mg mb dp un gd cn cs a ccd cl outer A₀ base h₀ L m news s Q E B F X N T hk hd hu hret
  exact z _ _ _ _ _ _ _ _ _ _ _ _ _ _ _ _ _ _ _ _ _ _ B F X N T hk hd hu (hret u sc t w1 w2 w3)
theorem alpha_m {x : Str} (h : Alpha x) : Alpha (Str.ofString "-" ++ x) := alpha_app (alpha_of (by decide +kernel)) h
theorem len_m {x : Str} (h : x.length ≤ 28) : (Str.ofString "-" ++ x).length ≤ 30 := by
  rw [Str.length_append]
  have : (Str.ofString "-").length = 1 := by decide +kernel
  omega
theorem og_same {prog : Program} {w : World} {A : Around} {E : Value → Shared → Prop} {s : Shared} {x : Str} {t u : Tok} {Q : Value → Shared → Prop} (h : Q (.bool true) s) : wpAny (model prog w) A (compareOp .Eq (.str x t) (.str x u)) Q E s :=
  eq_str (by rw [beq_self_eq_true]; exact h)
noncomputable def Stop (p : Prop) : Prop := p
theorem stop_of {p : Prop} (h : Stop p) : p := h
local macro_rules | `(tactic| walk_at "call ref") => `(tactic| k_extra "og call")
local macro_rules | `(tactic| walk_at "call ref") => `(tactic| k_dflt ((with_reducible show wpAny _ _ (call (Value.ref 119) _) _ _ _); (refine' con_use (c_text _ _ _ _ _ ?hi ?hn) ?k1 ?k2 ?k3 ?k4 ?k5 ?k6 ?k7 ?k8 (And.intro ?kM ?_); (case k1 => k_asm); (case k2 => k_asm); (case k3 => k_asm); (case k4 => k_asm); (case k5 => k_asm); (case kM => (repeat (first | exact List.Mem.head _ | refine List.Mem.tail _ ?_))); (case hi => first | assumption | exact IntsAre.cons _ _ (IntsAre.cons _ _ (IntsAre.cons _ _ (IntsAre.cons _ _ IntsAre.nil)))); (case hn => first | decide | omega); (case k6 => rfl); (case k7 => ((try dsimp only [ktrTop, Around.deeper, Around.in1, Around.mark]); show _ < 1000; first | decide | omega)); (case k8 => ((try dsimp only [ktrTop, Around.deeper, Around.in1, Around.mark]); unfold cLine; first | decide | omega)); k_whole; intro x' t' h' tk' al' ln' F' N')))
local macro_rules | `(tactic| walk_at "call ref") => `(tactic| k_dflt ((with_reducible show wpAny _ _ (call (Value.ref 98) _) _ _ _); (refine' con_use (c_ldecX _ _ _ _ _ ?hi ?hn) ?k1 ?k2 ?k3 ?k4 ?k5 ?k6 ?k7 ?k8 (And.intro ?kL ?_); (case k1 => k_asm); (case k2 => k_asm); (case k3 => k_asm); (case k4 => k_asm); (case k5 => k_asm); (case kL => is_list); (case hi => assumption); (case hn => omega); (case k6 => rfl); (case k7 => ((try dsimp only [ktrTop, Around.deeper, Around.in1, Around.mark]); show _ < 1000; first | decide | omega)); (case k8 => ((try dsimp only [ktrTop, Around.deeper, Around.in1, Around.mark]); unfold cLine; first | decide | omega)); k_whole; intro x' y' b' b2' D' t' u' c' h' tk' F' N' l1)))
theorem rowsN : True := by
  k_with_none
  (k_with "og: compareOp Eq str str" => (refine og_same ?_))
  (k_with "og call" => (refine stop_of ?_))
  (k_with "og call" => (k_dflt ((with_reducible show wpAny _ _ (call (Value.ref 138) _) _ _ _); (refine conr_use (right_all _ _ _ (by first | exact alpha_of (by decide +kernel) | exact alpha_m (by assumption) | assumption) (by first | exact (by decide +kernel) | exact len_m (by assumption) | omega)) (by k_asm) (by k_asm) (by k_asm) (by k_asm) (by k_asm) (by k_asm) (by k_asm) (by rfl) (by ((try dsimp only [ktrTop, Around.deeper, Around.in1, Around.mark]); first | decide | omega)) (by ((try dsimp only [ktrTop, Around.deeper, Around.in1, Around.mark]); first | decide | omega)) ?_); k_whole; intro h' tk' F' N')))
  (k_with "og call" => (k_dflt ((with_reducible show wpAny _ _ (call (Value.ref 70) _) _ _ _); (refine con_use (c_decY _ _ _ _ _ (by assumption) (by assumption)) (by k_asm) (by k_asm) (by k_asm) (by k_asm) (by k_asm) (by rfl) (by ((try dsimp only [ktrTop, Around.deeper, Around.in1, Around.mark]); show _ < 1000; first | decide | omega)) (by ((try dsimp only [ktrTop, Around.deeper, Around.in1, Around.mark]); unfold cLine; first | decide | omega)) ?_); k_whole; intro u' sc' y' w1' w2' w3' D' t' u' c' h' tk' F' N' l1)))
  (k_with "og call" => (k_dflt ((with_reducible show wpAny _ _ (call (Value.ref 84) _) _ _ _); (refine conp_use (by assumption) (by k_asm) (by k_asm) (by k_asm) (by k_asm) (by k_asm) (by rfl) (by ((try dsimp only [ktrTop, Around.deeper, Around.in1, Around.mark]); first | decide | omega)) (by ((try dsimp only [ktrTop, Around.deeper, Around.in1, Around.mark]); first | decide | omega)) ?_); k_whole; intro D' t' u' c' h' tk' F' N' l1)))
  (k_with "og call" => (k_dflt ((first | (with_reducible show wpAny _ _ (call (Value.ref 91) _) _ _ _) | (with_reducible show wpAny _ _ (call (Value.ref 131) _) _ _ _)); (refine con_use (hid_conw (by assumption)) (by k_asm) (by k_asm) (by k_asm) (by k_asm) (by k_asm) (by rfl) (by ((try dsimp only [ktrTop, Around.deeper, Around.in1, Around.mark]); show _ < 1000; first | decide | omega)) (by ((try dsimp only [ktrTop, Around.deeper, Around.in1, Around.mark]); unfold cLine; first | decide | omega)) (And.intro (by (repeat (first | exact List.Mem.head _ | refine List.Mem.tail _ ?_))) ?_)); k_whole; intro t' h' tk' F' N')))
  exact True.intro
local macro_rules | `(tactic| walk_at "compareOp Eq str str") => `(tactic| k_extra "og: compareOp Eq str str")
set_option maxRecDepth 100000 in
set_option maxHeartbeats 4000000 in
theorem law_holds : PySem.Challenge.rw_og0063_01.Holds := hd (by k_go)
end Og
theorem PySem.Challenge.cw_og0063_01_holds : PySem.Challenge.rw_og0063_01.Holds :=
  Og.law_holds
