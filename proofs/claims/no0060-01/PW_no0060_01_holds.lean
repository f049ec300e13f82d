import PyProof.Rows.All
import Wide.All
import OpenK.AllK
import Wide.FinOn
import Lean
import PySem.Challenge.RW_no0060_01
set_option Elab.async false
set_option rowWalk.seconds 0
set_option linter.unusedVariables false
set_option compiler.extract_closed false
local macro_rules | `(tactic| k_room) => `(tactic| ktr_room)
set_option hygiene false in
local macro_rules | `(tactic| k_all) => `(tactic| (intro p hp; have z0 := hnt p hp; refine neN ?_; (try dsimp only); omega))
local macro_rules | `(tactic| k_ne) => `(tactic| (refine neN ?_; (try dsimp only); first | (with_reducible assumption) | (with_reducible (refine Ne.symm ?_; assumption))))

section
open PySem PySem.W PyProof.Rows
set_option maxRecDepth 100000
set_option maxHeartbeats 8000000
namespace Mine
/-- stands in for the head's own theorem while the kit's heap and view are laid down: it asks for nothing, and it gives back what it is given -/
theorem PySem.W.holds_open {r : OpenRow} {q : Program} {loose : List Str} {Xt : Shared → Bool} {XP : (Str → Option Value) → Heap → Prop} {α : Type} {Yf : Shared → α} {Ya : World → α} {YP : World → Heap → Prop} {N : Nat}
    (_left : ∀ w : World, w = w) (_hY : ∀ w s, Yf s = Ya w → YP w s.heap) (_hYk : ∀ w h h', YP w h → (∀ b o, h.get? b = some o → h'.get? b = some o) → YP w h')
    (_hX : ∀ s, Xt s = true → XP (s.heap.nsMap mainGlobals) s.heap) (_hXk : ∀ mg h h', XP mg h → (∀ b o, h.get? b = some o → h'.get? b = some o) → XP mg h')
    (_hdef : 0 = 0) (_hp : 0 = 0) (_hk : 0 = 0) (_hRf : ∀ s, Xt s = true → RecFacts r.records s.heap) (_hwr : 0 = 0)
    (_k1 : True) (_ok : True) (_hb : 0 = 0 ∧ 0 = 0 ∧ 0 = 0 ∧ 0 = 0 ∧ 0 = 0 ∧ True) (_hw : r.toRowW.promised)
    (call : r.Holds) : r.Holds := call
open_top hd for PySem.Challenge.rw_no0060_01.row
end Mine
end

section
open PySem PySem.W PyProof.Rows PySem.W.X
namespace Mine
noncomputable abbrev prog : Program := PySem.Challenge.rw_no0060_01.row.prog
noncomputable abbrev xA (outer : List Env) (gd : Option (List Code)) : Around := { handled := none, depth := 400, frames := some outer, guards := gd, units := 300 }
noncomputable def bE (P : Params) (x : Str) (t : Tok) (v : Value) : DictEntry := { hash := PyData.keyHash P x, key := Value.str x t, val := v }
noncomputable def bArr (P : Params) : Array DictEntry := #[
  bE P ⟨⟨[95, 95, 110, 97, 109, 101, 95, 95]⟩⟩ 1 (Value.str ⟨⟨[98, 117, 105, 108, 116, 105, 110, 115]⟩⟩ 160), bE P ⟨⟨[95, 95, 100, 111, 99, 95, 95]⟩⟩ 2 (Value.builtin "builtins.__doc__:str#opaque"),
  bE P ⟨⟨[95, 95, 112, 97, 99, 107, 97, 103, 101, 95, 95]⟩⟩ 3 (Value.builtin "builtins.__package__:str#opaque"), bE P ⟨⟨[95, 95, 108, 111, 97, 100, 101, 114, 95, 95]⟩⟩ 4 (Value.builtin "builtins.__loader__:shared#opaque"),
  bE P ⟨⟨[95, 95, 115, 112, 101, 99, 95, 95]⟩⟩ 5 (Value.builtin "builtins.__spec__#opaque"), bE P ⟨⟨[95, 95, 98, 117, 105, 108, 100, 95, 99, 108, 97, 115, 115, 95, 95]⟩⟩ 6 (Value.builtin "__build_class__"), bE P ⟨⟨[95, 95, 105, 109, 112, 111, 114, 116, 95, 95]⟩⟩ 7 (Value.builtin "__import__"), bE P ⟨⟨[97, 98, 115]⟩⟩ 8 (Value.builtin "abs"), bE P ⟨⟨[97, 108, 108]⟩⟩ 9 (Value.builtin "all"),
  bE P ⟨⟨[97, 110, 121]⟩⟩ 10 (Value.builtin "any"), bE P ⟨⟨[97, 115, 99, 105, 105]⟩⟩ 11 (Value.builtin "ascii"), bE P ⟨⟨[98, 105, 110]⟩⟩ 12 (Value.builtin "bin"), bE P ⟨⟨[98, 114, 101, 97, 107, 112, 111, 105, 110, 116]⟩⟩ 13 (Value.builtin "breakpoint"), bE P ⟨⟨[99, 97, 108, 108, 97, 98, 108, 101]⟩⟩ 14 (Value.builtin "callable"), bE P ⟨⟨[99, 104, 114]⟩⟩ 15 (Value.builtin "chr"), bE P ⟨⟨[99, 111, 109, 112, 105, 108, 101]⟩⟩ 16 (Value.builtin "compile"), bE P ⟨⟨[100, 101, 108, 97, 116, 116, 114]⟩⟩ 17 (Value.builtin "delattr"),
  bE P ⟨⟨[100, 105, 114]⟩⟩ 18 (Value.builtin "dir"), bE P ⟨⟨[100, 105, 118, 109, 111, 100]⟩⟩ 19 (Value.builtin "divmod"), bE P ⟨⟨[101, 118, 97, 108]⟩⟩ 20 (Value.builtin "eval"), bE P ⟨⟨[101, 120, 101, 99]⟩⟩ 21 (Value.builtin "exec"), bE P ⟨⟨[102, 111, 114, 109, 97, 116]⟩⟩ 22 (Value.builtin "format"), bE P ⟨⟨[103, 101, 116, 97, 116, 116, 114]⟩⟩ 23 (Value.builtin "getattr"), bE P ⟨⟨[103, 108, 111, 98, 97, 108, 115]⟩⟩ 24 (Value.builtin "globals"), bE P ⟨⟨[104, 97, 115, 97, 116, 116, 114]⟩⟩ 25 (Value.builtin "hasattr"),
  bE P ⟨⟨[104, 97, 115, 104]⟩⟩ 26 (Value.builtin "hash"), bE P ⟨⟨[104, 101, 120]⟩⟩ 27 (Value.builtin "hex"), bE P ⟨⟨[105, 100]⟩⟩ 28 (Value.builtin "id"), bE P ⟨⟨[105, 110, 112, 117, 116]⟩⟩ 29 (Value.builtin "input"), bE P ⟨⟨[105, 115, 105, 110, 115, 116, 97, 110, 99, 101]⟩⟩ 30 (Value.builtin "isinstance"), bE P ⟨⟨[105, 115, 115, 117, 98, 99, 108, 97, 115, 115]⟩⟩ 31 (Value.builtin "issubclass"), bE P ⟨⟨[105, 116, 101, 114]⟩⟩ 32 (Value.builtin "iter"), bE P ⟨⟨[97, 105, 116, 101, 114]⟩⟩ 33 (Value.builtin "aiter"),
  bE P ⟨⟨[108, 101, 110]⟩⟩ 34 (Value.builtin "len"), bE P ⟨⟨[108, 111, 99, 97, 108, 115]⟩⟩ 35 (Value.builtin "locals"), bE P ⟨⟨[109, 97, 120]⟩⟩ 36 (Value.builtin "max"), bE P ⟨⟨[109, 105, 110]⟩⟩ 37 (Value.builtin "min"), bE P ⟨⟨[110, 101, 120, 116]⟩⟩ 38 (Value.builtin "next"), bE P ⟨⟨[97, 110, 101, 120, 116]⟩⟩ 39 (Value.builtin "anext"), bE P ⟨⟨[111, 99, 116]⟩⟩ 40 (Value.builtin "oct"), bE P ⟨⟨[111, 114, 100]⟩⟩ 41 (Value.builtin "ord"), bE P ⟨⟨[112, 111, 119]⟩⟩ 42 (Value.builtin "pow"),
  bE P ⟨⟨[112, 114, 105, 110, 116]⟩⟩ 43 (Value.builtin "print"), bE P ⟨⟨[114, 101, 112, 114]⟩⟩ 44 (Value.builtin "repr"), bE P ⟨⟨[114, 111, 117, 110, 100]⟩⟩ 45 (Value.builtin "round"), bE P ⟨⟨[115, 101, 116, 97, 116, 116, 114]⟩⟩ 46 (Value.builtin "setattr"), bE P ⟨⟨[115, 111, 114, 116, 101, 100]⟩⟩ 47 (Value.builtin "sorted"), bE P ⟨⟨[115, 117, 109]⟩⟩ 48 (Value.builtin "sum"), bE P ⟨⟨[118, 97, 114, 115]⟩⟩ 49 (Value.builtin "vars"), bE P ⟨⟨[78, 111, 110, 101]⟩⟩ 50 (Value.none),
  bE P ⟨⟨[69, 108, 108, 105, 112, 115, 105, 115]⟩⟩ 51 (Value.ellipsis), bE P ⟨⟨[78, 111, 116, 73, 109, 112, 108, 101, 109, 101, 110, 116, 101, 100]⟩⟩ 52 (Value.notImplemented), bE P ⟨⟨[70, 97, 108, 115, 101]⟩⟩ 53 (Value.bool false),
  bE P ⟨⟨[84, 114, 117, 101]⟩⟩ 54 (Value.bool true), bE P ⟨⟨[98, 111, 111, 108]⟩⟩ 55 (Value.type "bool"), bE P ⟨⟨[109, 101, 109, 111, 114, 121, 118, 105, 101, 119]⟩⟩ 56 (Value.type "memoryview"), bE P ⟨⟨[98, 121, 116, 101, 97, 114, 114, 97, 121]⟩⟩ 57 (Value.type "bytearray"), bE P ⟨⟨[98, 121, 116, 101, 115]⟩⟩ 58 (Value.type "bytes"), bE P ⟨⟨[99, 108, 97, 115, 115, 109, 101, 116, 104, 111, 100]⟩⟩ 59 (Value.type "classmethod"),
  bE P ⟨⟨[99, 111, 109, 112, 108, 101, 120]⟩⟩ 60 (Value.type "complex"), bE P ⟨⟨[100, 105, 99, 116]⟩⟩ 61 (Value.type "dict"), bE P ⟨⟨[101, 110, 117, 109, 101, 114, 97, 116, 101]⟩⟩ 62 (Value.type "enumerate"), bE P ⟨⟨[102, 105, 108, 116, 101, 114]⟩⟩ 63 (Value.type "filter"), bE P ⟨⟨[102, 108, 111, 97, 116]⟩⟩ 64 (Value.type "float"), bE P ⟨⟨[102, 114, 111, 122, 101, 110, 115, 101, 116]⟩⟩ 65 (Value.type "frozenset"), bE P ⟨⟨[112, 114, 111, 112, 101, 114, 116, 121]⟩⟩ 66 (Value.type "property"), bE P ⟨⟨[105, 110, 116]⟩⟩ 67 (Value.type "int"),
  bE P ⟨⟨[108, 105, 115, 116]⟩⟩ 68 (Value.type "list"), bE P ⟨⟨[109, 97, 112]⟩⟩ 69 (Value.type "map"), bE P ⟨⟨[111, 98, 106, 101, 99, 116]⟩⟩ 70 (Value.type "object"), bE P ⟨⟨[114, 97, 110, 103, 101]⟩⟩ 71 (Value.type "range"), bE P ⟨⟨[114, 101, 118, 101, 114, 115, 101, 100]⟩⟩ 72 (Value.type "reversed"), bE P ⟨⟨[115, 101, 116]⟩⟩ 73 (Value.type "set"), bE P ⟨⟨[115, 108, 105, 99, 101]⟩⟩ 74 (Value.type "slice"), bE P ⟨⟨[115, 116, 97, 116, 105, 99, 109, 101, 116, 104, 111, 100]⟩⟩ 75 (Value.type "staticmethod"),
  bE P ⟨⟨[115, 116, 114]⟩⟩ 76 (Value.type "str"), bE P ⟨⟨[115, 117, 112, 101, 114]⟩⟩ 77 (Value.type "super"), bE P ⟨⟨[116, 117, 112, 108, 101]⟩⟩ 78 (Value.type "tuple"), bE P ⟨⟨[116, 121, 112, 101]⟩⟩ 79 (Value.type "type"), bE P ⟨⟨[122, 105, 112]⟩⟩ 80 (Value.type "zip"), bE P ⟨⟨[95, 95, 100, 101, 98, 117, 103, 95, 95]⟩⟩ 81 (Value.bool true), bE P ⟨⟨[66, 97, 115, 101, 69, 120, 99, 101, 112, 116, 105, 111, 110]⟩⟩ 82 (Value.type "BaseException"),
  bE P ⟨⟨[66, 97, 115, 101, 69, 120, 99, 101, 112, 116, 105, 111, 110, 71, 114, 111, 117, 112]⟩⟩ 83 (Value.type "BaseExceptionGroup"), bE P ⟨⟨[69, 120, 99, 101, 112, 116, 105, 111, 110]⟩⟩ 84 (Value.type "Exception"), bE P ⟨⟨[71, 101, 110, 101, 114, 97, 116, 111, 114, 69, 120, 105, 116]⟩⟩ 85 (Value.type "GeneratorExit"), bE P ⟨⟨[75, 101, 121, 98, 111, 97, 114, 100, 73, 110, 116, 101, 114, 114, 117, 112, 116]⟩⟩ 86 (Value.type "KeyboardInterrupt"), bE P ⟨⟨[83, 121, 115, 116, 101, 109, 69, 120, 105, 116]⟩⟩ 87 (Value.type "SystemExit"),
  bE P ⟨⟨[65, 114, 105, 116, 104, 109, 101, 116, 105, 99, 69, 114, 114, 111, 114]⟩⟩ 88 (Value.type "ArithmeticError"), bE P ⟨⟨[65, 115, 115, 101, 114, 116, 105, 111, 110, 69, 114, 114, 111, 114]⟩⟩ 89 (Value.type "AssertionError"), bE P ⟨⟨[65, 116, 116, 114, 105, 98, 117, 116, 101, 69, 114, 114, 111, 114]⟩⟩ 90 (Value.type "AttributeError"), bE P ⟨⟨[66, 117, 102, 102, 101, 114, 69, 114, 114, 111, 114]⟩⟩ 91 (Value.type "BufferError"), bE P ⟨⟨[69, 79, 70, 69, 114, 114, 111, 114]⟩⟩ 92 (Value.type "EOFError"), bE P ⟨⟨[73, 109, 112, 111, 114, 116, 69, 114, 114, 111, 114]⟩⟩ 93 (Value.type "ImportError"),
  bE P ⟨⟨[76, 111, 111, 107, 117, 112, 69, 114, 114, 111, 114]⟩⟩ 94 (Value.type "LookupError"), bE P ⟨⟨[77, 101, 109, 111, 114, 121, 69, 114, 114, 111, 114]⟩⟩ 95 (Value.type "MemoryError"), bE P ⟨⟨[78, 97, 109, 101, 69, 114, 114, 111, 114]⟩⟩ 96 (Value.type "NameError"), bE P ⟨⟨[79, 83, 69, 114, 114, 111, 114]⟩⟩ 97 (Value.type "OSError"), bE P ⟨⟨[82, 101, 102, 101, 114, 101, 110, 99, 101, 69, 114, 114, 111, 114]⟩⟩ 98 (Value.type "ReferenceError"), bE P ⟨⟨[82, 117, 110, 116, 105, 109, 101, 69, 114, 114, 111, 114]⟩⟩ 99 (Value.type "RuntimeError"),
  bE P ⟨⟨[83, 116, 111, 112, 65, 115, 121, 110, 99, 73, 116, 101, 114, 97, 116, 105, 111, 110]⟩⟩ 100 (Value.type "StopAsyncIteration"), bE P ⟨⟨[83, 116, 111, 112, 73, 116, 101, 114, 97, 116, 105, 111, 110]⟩⟩ 101 (Value.type "StopIteration"), bE P ⟨⟨[83, 121, 110, 116, 97, 120, 69, 114, 114, 111, 114]⟩⟩ 102 (Value.type "SyntaxError"), bE P ⟨⟨[83, 121, 115, 116, 101, 109, 69, 114, 114, 111, 114]⟩⟩ 103 (Value.type "SystemError"), bE P ⟨⟨[84, 121, 112, 101, 69, 114, 114, 111, 114]⟩⟩ 104 (Value.type "TypeError"), bE P ⟨⟨[86, 97, 108, 117, 101, 69, 114, 114, 111, 114]⟩⟩ 105 (Value.type "ValueError"),
  bE P ⟨⟨[87, 97, 114, 110, 105, 110, 103]⟩⟩ 106 (Value.type "Warning"), bE P ⟨⟨[70, 108, 111, 97, 116, 105, 110, 103, 80, 111, 105, 110, 116, 69, 114, 114, 111, 114]⟩⟩ 107 (Value.type "FloatingPointError"), bE P ⟨⟨[79, 118, 101, 114, 102, 108, 111, 119, 69, 114, 114, 111, 114]⟩⟩ 108 (Value.type "OverflowError"), bE P ⟨⟨[90, 101, 114, 111, 68, 105, 118, 105, 115, 105, 111, 110, 69, 114, 114, 111, 114]⟩⟩ 109 (Value.type "ZeroDivisionError"), bE P ⟨⟨[66, 121, 116, 101, 115, 87, 97, 114, 110, 105, 110, 103]⟩⟩ 110 (Value.type "BytesWarning"),
  bE P ⟨⟨[68, 101, 112, 114, 101, 99, 97, 116, 105, 111, 110, 87, 97, 114, 110, 105, 110, 103]⟩⟩ 111 (Value.type "DeprecationWarning"), bE P ⟨⟨[69, 110, 99, 111, 100, 105, 110, 103, 87, 97, 114, 110, 105, 110, 103]⟩⟩ 112 (Value.type "EncodingWarning"), bE P ⟨⟨[70, 117, 116, 117, 114, 101, 87, 97, 114, 110, 105, 110, 103]⟩⟩ 113 (Value.type "FutureWarning"), bE P ⟨⟨[73, 109, 112, 111, 114, 116, 87, 97, 114, 110, 105, 110, 103]⟩⟩ 114 (Value.type "ImportWarning"), bE P ⟨⟨[80, 101, 110, 100, 105, 110, 103, 68, 101, 112, 114, 101, 99, 97, 116, 105, 111, 110, 87, 97, 114, 110, 105, 110, 103]⟩⟩ 115 (Value.type "PendingDeprecationWarning"),
  bE P ⟨⟨[82, 101, 115, 111, 117, 114, 99, 101, 87, 97, 114, 110, 105, 110, 103]⟩⟩ 116 (Value.type "ResourceWarning"), bE P ⟨⟨[82, 117, 110, 116, 105, 109, 101, 87, 97, 114, 110, 105, 110, 103]⟩⟩ 117 (Value.type "RuntimeWarning"), bE P ⟨⟨[83, 121, 110, 116, 97, 120, 87, 97, 114, 110, 105, 110, 103]⟩⟩ 118 (Value.type "SyntaxWarning"), bE P ⟨⟨[85, 110, 105, 99, 111, 100, 101, 87, 97, 114, 110, 105, 110, 103]⟩⟩ 119 (Value.type "UnicodeWarning"), bE P ⟨⟨[85, 115, 101, 114, 87, 97, 114, 110, 105, 110, 103]⟩⟩ 120 (Value.type "UserWarning"),
  bE P ⟨⟨[66, 108, 111, 99, 107, 105, 110, 103, 73, 79, 69, 114, 114, 111, 114]⟩⟩ 121 (Value.type "BlockingIOError"), bE P ⟨⟨[67, 104, 105, 108, 100, 80, 114, 111, 99, 101, 115, 115, 69, 114, 114, 111, 114]⟩⟩ 122 (Value.type "ChildProcessError"), bE P ⟨⟨[67, 111, 110, 110, 101, 99, 116, 105, 111, 110, 69, 114, 114, 111, 114]⟩⟩ 123 (Value.type "ConnectionError"), bE P ⟨⟨[70, 105, 108, 101, 69, 120, 105, 115, 116, 115, 69, 114, 114, 111, 114]⟩⟩ 124 (Value.type "FileExistsError"), bE P ⟨⟨[70, 105, 108, 101, 78, 111, 116, 70, 111, 117, 110, 100, 69, 114, 114, 111, 114]⟩⟩ 125 (Value.type "FileNotFoundError"),
  bE P ⟨⟨[73, 110, 116, 101, 114, 114, 117, 112, 116, 101, 100, 69, 114, 114, 111, 114]⟩⟩ 126 (Value.type "InterruptedError"), bE P ⟨⟨[73, 115, 65, 68, 105, 114, 101, 99, 116, 111, 114, 121, 69, 114, 114, 111, 114]⟩⟩ 127 (Value.type "IsADirectoryError"), bE P ⟨⟨[78, 111, 116, 65, 68, 105, 114, 101, 99, 116, 111, 114, 121, 69, 114, 114, 111, 114]⟩⟩ 128 (Value.type "NotADirectoryError"), bE P ⟨⟨[80, 101, 114, 109, 105, 115, 115, 105, 111, 110, 69, 114, 114, 111, 114]⟩⟩ 129 (Value.type "PermissionError"), bE P ⟨⟨[80, 114, 111, 99, 101, 115, 115, 76, 111, 111, 107, 117, 112, 69, 114, 114, 111, 114]⟩⟩ 130 (Value.type "ProcessLookupError"),
  bE P ⟨⟨[84, 105, 109, 101, 111, 117, 116, 69, 114, 114, 111, 114]⟩⟩ 131 (Value.type "TimeoutError"), bE P ⟨⟨[73, 110, 100, 101, 110, 116, 97, 116, 105, 111, 110, 69, 114, 114, 111, 114]⟩⟩ 132 (Value.type "IndentationError"), bE P ⟨⟨[95, 73, 110, 99, 111, 109, 112, 108, 101, 116, 101, 73, 110, 112, 117, 116, 69, 114, 114, 111, 114]⟩⟩ 133 (Value.type "_IncompleteInputError"), bE P ⟨⟨[73, 110, 100, 101, 120, 69, 114, 114, 111, 114]⟩⟩ 134 (Value.type "IndexError"), bE P ⟨⟨[75, 101, 121, 69, 114, 114, 111, 114]⟩⟩ 135 (Value.type "KeyError"),
  bE P ⟨⟨[77, 111, 100, 117, 108, 101, 78, 111, 116, 70, 111, 117, 110, 100, 69, 114, 114, 111, 114]⟩⟩ 136 (Value.type "ModuleNotFoundError"), bE P ⟨⟨[78, 111, 116, 73, 109, 112, 108, 101, 109, 101, 110, 116, 101, 100, 69, 114, 114, 111, 114]⟩⟩ 137 (Value.type "NotImplementedError"), bE P ⟨⟨[80, 121, 116, 104, 111, 110, 70, 105, 110, 97, 108, 105, 122, 97, 116, 105, 111, 110, 69, 114, 114, 111, 114]⟩⟩ 138 (Value.type "PythonFinalizationError"), bE P ⟨⟨[82, 101, 99, 117, 114, 115, 105, 111, 110, 69, 114, 114, 111, 114]⟩⟩ 139 (Value.type "RecursionError"),
  bE P ⟨⟨[85, 110, 98, 111, 117, 110, 100, 76, 111, 99, 97, 108, 69, 114, 114, 111, 114]⟩⟩ 140 (Value.type "UnboundLocalError"), bE P ⟨⟨[85, 110, 105, 99, 111, 100, 101, 69, 114, 114, 111, 114]⟩⟩ 141 (Value.type "UnicodeError"), bE P ⟨⟨[66, 114, 111, 107, 101, 110, 80, 105, 112, 101, 69, 114, 114, 111, 114]⟩⟩ 142 (Value.type "BrokenPipeError"), bE P ⟨⟨[67, 111, 110, 110, 101, 99, 116, 105, 111, 110, 65, 98, 111, 114, 116, 101, 100, 69, 114, 114, 111, 114]⟩⟩ 143 (Value.type "ConnectionAbortedError"),
  bE P ⟨⟨[67, 111, 110, 110, 101, 99, 116, 105, 111, 110, 82, 101, 102, 117, 115, 101, 100, 69, 114, 114, 111, 114]⟩⟩ 144 (Value.type "ConnectionRefusedError"), bE P ⟨⟨[67, 111, 110, 110, 101, 99, 116, 105, 111, 110, 82, 101, 115, 101, 116, 69, 114, 114, 111, 114]⟩⟩ 145 (Value.type "ConnectionResetError"), bE P ⟨⟨[84, 97, 98, 69, 114, 114, 111, 114]⟩⟩ 146 (Value.type "TabError"), bE P ⟨⟨[85, 110, 105, 99, 111, 100, 101, 68, 101, 99, 111, 100, 101, 69, 114, 114, 111, 114]⟩⟩ 147 (Value.type "UnicodeDecodeError"),
  bE P ⟨⟨[85, 110, 105, 99, 111, 100, 101, 69, 110, 99, 111, 100, 101, 69, 114, 114, 111, 114]⟩⟩ 148 (Value.type "UnicodeEncodeError"), bE P ⟨⟨[85, 110, 105, 99, 111, 100, 101, 84, 114, 97, 110, 115, 108, 97, 116, 101, 69, 114, 114, 111, 114]⟩⟩ 149 (Value.type "UnicodeTranslateError"), bE P ⟨⟨[69, 120, 99, 101, 112, 116, 105, 111, 110, 71, 114, 111, 117, 112]⟩⟩ 150 (Value.type "ExceptionGroup"), bE P ⟨⟨[69, 110, 118, 105, 114, 111, 110, 109, 101, 110, 116, 69, 114, 114, 111, 114]⟩⟩ 151 (Value.type "OSError"),
  bE P ⟨⟨[73, 79, 69, 114, 114, 111, 114]⟩⟩ 152 (Value.type "OSError"), bE P ⟨⟨[111, 112, 101, 110]⟩⟩ 153 (Value.builtin "open"), bE P ⟨⟨[113, 117, 105, 116]⟩⟩ 154 (Value.builtin "builtins.quit#opaque"),
  bE P ⟨⟨[101, 120, 105, 116]⟩⟩ 155 (Value.builtin "builtins.exit#opaque"), bE P ⟨⟨[99, 111, 112, 121, 114, 105, 103, 104, 116]⟩⟩ 156 (Value.builtin "builtins.copyright#opaque"),
  bE P ⟨⟨[99, 114, 101, 100, 105, 116, 115]⟩⟩ 157 (Value.builtin "builtins.credits#opaque"), bE P ⟨⟨[108, 105, 99, 101, 110, 115, 101]⟩⟩ 158 (Value.builtin "builtins.license#opaque"),
  bE P ⟨⟨[104, 101, 108, 112]⟩⟩ 159 (Value.builtin "builtins.help#opaque")]
noncomputable abbrev bObj (P : Params) : Obj := { cls := Value.type "dict", data := Data.dict (bArr P) 159 }
noncomputable def K2 (P : Params) : Frag := (0, bObj P) :: Mine.hd.heap_1 P
end Mine
end

section
open PySem PySem.W PyProof.Rows
namespace Mine
noncomputable abbrev LL : List Str := looseW Mine.hd.view_1 [] ++ (recsOf Mine.hd.view_1).map (·.name) ++ (litsOf Mine.hd.view_1).map (·.1) ++ (clssOf Mine.hd.view_1 (looseW Mine.hd.view_1 [])).map (·.name)

end Mine
end

section
open PySem PySem.W PySem.Spec PySem.Calls PyProof.Rows
namespace Mine
noncomputable def stAt (l : List Stmt) (i : Nat) : Stmt := (l[i]?).getD (.Pass ⟨0, 0, 0, 0⟩)
noncomputable def fbody : Stmt → List Stmt
  | .FunctionDef _ _ b .. => b
  | _ => []
noncomputable def fscope : Stmt → Scope
  | .FunctionDef _ _ _ _ _ _ sc .. => sc
  | _ => default
noncomputable def ifBody : Stmt → List Stmt
  | .If _ b _ _ => b
  | _ => []
noncomputable def ifTest : Stmt → PySem.Expr
  | .If t _ _ _ => t
  | _ => default
noncomputable def forBody : Stmt → List Stmt
  | .For _ _ b .. => b
  | _ => []
noncomputable def cmpL : PySem.Expr → PySem.Expr
  | .Compare l .. => l
  | e => e
noncomputable def callArg : PySem.Expr → Nat → PySem.Expr
  | .Call _ as _ _, i => (as[i]?).getD default
  | e, _ => e
noncomputable def lamBody : PySem.Expr → PySem.Expr
  | .Lambda _ b _ _ => b
  | e => e
noncomputable def lamArgs : PySem.Expr → Arguments
  | .Lambda a _ _ _ => a
  | _ => default
noncomputable def lamScope : PySem.Expr → Scope
  | .Lambda _ _ sc _ => sc
  | _ => default
noncomputable def lamPos : PySem.Expr → Pos
  | .Lambda _ _ _ p => p
  | _ => default
noncomputable def nrSt : Stmt := stAt PySem.Challenge.rw_no0060_01.row.prog.main.body 18
noncomputable def nrBody : List Stmt := fbody nrSt
noncomputable def nrLoop : List Stmt := forBody (stAt nrBody 3)
noncomputable def lamP : PySem.Expr := callArg (cmpL (ifTest (stAt (ifBody (stAt nrLoop 0)) 0))) 0
end Mine
end

section
open PySem PySem.W PySem.Spec PySem.Calls PyProof.Rows
set_option maxRecDepth 100000
namespace Mine
noncomputable abbrev KK (w : World) : Frag := Mine.hd.heap_1 w.params

/-- what stands around a call: at most D frames deep -/
noncomputable abbrev zA (D U : Nat) (outer : List Env) (gd : Option (List Code)) : Around := { handled := none, depth := D, frames := some outer, guards := gd, units := U }
/-- the standing ground of a call: the written part lies in base, base stays, the frames stand -/
structure Gr (w : World) (mean : ExcName → Option Value) (mg mb : Str → Option Value) (D U : Nat) (A : Around) (base : Heap) (l : List Env) (s : Shared) : Prop where
  below : Below A base l s.heap
  K : (Mine.hd.heap_1 w.params).In base
  top : Top topProg LL mean mg mb base
  b0 : base.get? 0 = some (bObj w.params)
  hand : A.handled = none
  depth : A.depth ≤ D
  units : A.units ≤ U

section
variable {w : World} {mean : ExcName → Option Value} {mg mb : Str → Option Value} {A : Around} {base : Heap} {l : List Env} {s : Shared} {D U : Nat}
theorem Gr.Ks (G : Gr w mean mg mb D U A base l s) : (Mine.hd.heap_1 w.params).In s.heap := G.K.keeps G.below.stays
theorem Gr.tops (G : Gr w mean mg mb D U A base l s) : Top topProg LL mean mg mb s.heap := G.top.keeps G.below.stays
theorem Gr.K2 (G : Gr w mean mg mb D U A base l s) : (Mine.K2 w.params).In s.heap := fun a o e => by
  unfold Mine.K2 at e
  rw [List.lookup_cons] at e
  cases h : a == 0 with
  | true =>
    rw [h] at e
    have ha : a = 0 := eq_of_beq h
    subst ha
    exact G.below.stays _ _ (G.b0.trans e)
  | false => rw [h] at e; exact G.Ks a o e
theorem in_use {A A' : Around} {l : List Env} (hh : A.handled = A'.handled) (hd : A.depth ≤ A'.depth) (hu : A.units ≤ A'.units) (hf : A.frames = some l) (hf' : A'.frames = some l) (hg : A'.guards = A.guards) {Γ : PySem.Ctx} (hΓ : Γ.In A) : Γ.In A' :=
  ⟨hΓ.1.trans hh, Nat.le_trans hΓ.2.1 hd, fun q hq => hΓ.2.2.1 q (by rw [hf, ← hf', hq]), fun g hg' => hΓ.2.2.2.1 g (hg ▸ hg'), Nat.le_trans hΓ.2.2.2.2 hu⟩
theorem below_use {A A' : Around} {l : List Env} (hh : A.handled = A'.handled) (hd : A.depth ≤ A'.depth) (hu : A.units ≤ A'.units) (hf : A.frames = some l) (hf' : A'.frames = some l) (hg : A'.guards = A.guards) {Γ : PySem.Ctx} (hΓ : Γ.Below A) : Γ.Below A' :=
  ⟨hΓ.1.trans hh, Nat.le_trans hΓ.2.1 hd, fun q hq => hΓ.2.2.1 q (by rw [hf, ← hf', hq]), fun g hg' => hΓ.2.2.2.1 g (hg ▸ hg'), Nat.le_trans hΓ.2.2.2.2 hu⟩
theorem x_use {α : Type} {M : Model} {t : Sem α} {Q : α → Shared → Prop} {E : Value → Shared → Prop} {A : Around} {l : List Env} {s : Shared} (hh : A.handled = none) (hd : A.depth ≤ 400) (hu : A.units ≤ 300) (hf : A.frames = some l)
    (h : wpAny M (xA l A.guards) t Q E s) : wpAny M A t Q E s := fun Γ p hΓ => h Γ p (in_use (A' := xA l A.guards) hh hd hu hf rfl rfl hΓ)
theorem Gr.x {α : Type} {t : Sem α} {Q : α → Shared → Prop} {E : Value → Shared → Prop} (G : Gr w mean mg mb D U A base l s) (hD : D ≤ 400) (hU : U ≤ 300)
    (h : wpAny (model PySem.Challenge.rw_no0060_01.row.prog w) (xA l A.guards) t Q E s) : wpAny (model PySem.Challenge.rw_no0060_01.row.prog w) A t Q E s :=
  x_use G.hand (Nat.le_trans G.depth hD) (Nat.le_trans G.units hU) G.below.stack h
/-- the ground with the bounds themselves around it -/
theorem Gr.z (G : Gr w mean mg mb D U A base l s) : Gr w mean mg mb D U (zA D U l A.guards) base l s := ⟨⟨rfl, G.below.stays, G.below.frames⟩, G.K, G.top, G.b0, rfl, Nat.le_refl _, Nat.le_refl _⟩
theorem Gr.code (G : Gr w mean mg mb D U A base l s) {M : Model} {c : Code} {R : Result → Shared → Prop} (h : codeAny M (zA D U l A.guards) c R s) : codeAny M A c R s :=
  fun Γ p hc hΓ => h Γ p hc (below_use (A' := zA D U l A.guards) G.hand G.depth G.units G.below.stack rfl rfl hΓ)

/-- a plain def is entered: its ground is the whole heap -/
theorem enterP {R : Result → Shared → Prop} {name qual : Str} {params : Arguments} {body : List Stmt} {scope : Scope} {dV kV doc pm cdv ct oc : Value} {an od : Option Addr} {osl : Array (Option Value)} {f : Addr} {args : Args} {binds : List (Str × Value)}
    (G : Gr w mean mg mb D U A base l s) (hD : D < recursionLimit)
    (ho : (Mine.hd.heap_1 w.params).lookup f = some ⟨oc, od, .func (fnOf name qual params body scope dV kV doc pm an cdv ct), osl⟩) (hcd : codeIn (Mine.hd.heap_1 w.params) cdv qual = true)
    (hbind : BindsTo s (fnOf name qual params body scope dV kV doc pm an cdv ct) args binds) (hloc : ∀ y ∈ binds, scope.names.lookup y.1 = some .local)
    (h : ∀ L' h₁, Fr s.heap L' h₁ (fun y => binds.reverse.lookup y) → News s.heap L' h₁ [] → Below (zA D U l A.guards) base l s.heap → (Mine.hd.heap_1 w.params).In s.heap → Top topProg LL mean mg mb s.heap →
      wpAny (model PySem.Challenge.rw_no0060_01.row.prog w) ((zA D U l A.guards).deeper (envOf qual scope L' f cdv)) (execs body (envOf qual scope L' f cdv)) (fun fl s' => R (.ok (.ret (match fl with | .ret v => v | _ => .none))) s')
        (fun e s' => wpAny (model PySem.Challenge.rw_no0060_01.row.prog w) ((zA D U l A.guards).deeper (envOf qual scope L' f cdv)) (leaving (envOf qual scope L' f cdv) e) (fun _ s'' => R (.error e) s'') (fun e' s'' => R (.error e') s'') s')
        { s with heap := h₁, toks := s.toks + binds.length })
    (hco : scope.isCoroutine = false) (hgen : scope.isGenerator = false) (hk : scope.kind = .function)
    (hcell : ∀ x ∈ scope.names, x.2 ≠ .cell) : codeAny (model PySem.Challenge.rw_no0060_01.row.prog w) A (.call (.ref f) args) R s :=
  G.code (codeAny_call_def (fd := fnOf name qual params body scope dV kV doc pm an cdv ct) hD (G.Ks _ _ ho) rfl G.tops.nolimit (codeRec_of G.Ks hcd) rfl hbind hcell hloc
    (fun h₁ hns hk => h _ h₁ ⟨hns, hk, Nat.le_refl _⟩ News.nil G.z.below G.Ks G.tops) hco hgen hk)
/-- the ground of a call made from a walked function -/
theorem Gr.push {outer : List Env} {g : Heap} {L a : Addr} {m : Str → Option Value} {name : Str} {scope : Scope} {cd : Value} {D' U' : Nat} {gd : Option (List Code)} (G : Gr w mean mg mb D U A base outer s) {s' : Shared} (K : Below (zA D U outer gd) base outer g) (F : Fr g L s'.heap m)
    (hd : D + 1 ≤ D') (hu : U + 3 ≤ U') (hk : scope.kind = .function := by rfl) :
    Gr w mean mg mb D' U' ((zA D U outer gd).deeper (envOf name scope L a cd)) base (envOf name scope L a cd :: outer) s' :=
  ⟨K.push F hk, G.K, G.top, G.b0, rfl, hd, hu⟩
end
end Mine
end

section
open PySem PySem.W PySem.Spec PySem.Calls PyProof.Rows PySem.W.X
set_option maxRecDepth 100000
namespace Mine
noncomputable def excObj (C dx t : Addr) : Obj := { cls := .ref C, dict := some dx, data := .fields #[.ref t, .none, .none, .none, .bool false, .none] }
noncomputable def qDict (h1 h2 h3 : Int) (k1 k2 k3 : Tok) (v1 v2 v3 : Value) : Obj := { cls := .type "dict", data := .dict #[⟨h1, .str (Str.ofString "code") k1, v1⟩, ⟨h2, .str (Str.ofString "frame_type") k2, v2⟩, ⟨h3, .str (Str.ofString "text") k3, v3⟩] 3 }
noncomputable def sDict (h1 : Int) (k1 : Tok) (v1 : Value) : Obj := { cls := .type "dict", data := .dict #[⟨h1, .str (Str.ofString "text") k1, v1⟩] 1 }
structure NewX (h h' : Heap) (e C dx t : Addr) (od : Obj) : Prop where
  keep : ∀ b o, h.get? b = some o → h'.get? b = some o
  new : h.get? e = none
  there : h'.get? e = some (excObj C dx t)
  dnew : h.get? dx = none
  dict : h'.get? dx = some od
  ne : dx ≠ e
theorem mem_keeps {h h' : Heap} {news : List (Addr × Obj)} (D : Mem h h' [] news) : ∀ b o, h.get? b = some o → h'.get? b = some o := fun b o e => D.keep b o e (by simp [away])
theorem newX_of {h h' : Heap} {a0 a1 a2 a3 a4 C : Addr} {o0 o1 o2 o3 o4 od : Obj} (D : Mem h h' [] [(a0, o0), (a1, o1), (a2, o2), (a3, o3), (a4, o4)]) (e3 : o3 = excObj C a0 a1) (e0 : o0 = od) : NewX h h' a3 C a0 a1 od := by
  subst e3 e0
  exact ⟨mem_keeps D, (D.nw (a3, _) (.tail _ (.tail _ (.tail _ (.head _))))).2, D.at 3 _ _ rfl, (D.nw (a0, _) (.head _)).2, D.at 0 _ _ rfl, D.ne 0 3 _ _ _ _ rfl rfl rfl⟩
theorem newQ_of {h h' : Heap} {a0 a1 a2 a3 a4 C : Addr} {o0 o1 o2 o3 o4 : Obj} {h1 h2 h3 : Int} {x1 x2 x3 : Str} {k1 k2 k3 : Tok} {v1 v2 v3 w1 w2 w3 : Value} (D : Mem h h' [] [(a0, o0), (a1, o1), (a2, o2), (a3, o3), (a4, o4)]) (e3 : o3 = excObj C a0 a1)
    (e0 : o0 = { cls := .type "dict", data := .dict ⟨[⟨h1, .str x1 k1, v1⟩, ⟨h2, .str x2 k2, v2⟩, ⟨h3, .str x3 k3, v3⟩]⟩ 3 })
    (g1 : x1 = Str.ofString "code") (d1 : v1 = w1) (g2 : x2 = Str.ofString "frame_type") (d2 : v2 = w2) (g3 : x3 = Str.ofString "text") (d3 : v3 = w3) : NewX h h' a3 C a0 a1 (qDict h1 h2 h3 k1 k2 k3 w1 w2 w3) := by
  subst g1 g2 g3 d1 d2 d3
  exact newX_of D e3 e0
theorem newS_of {h h' : Heap} {a0 a1 a2 a3 a4 C : Addr} {o0 o1 o2 o3 o4 : Obj} {h1 : Int} {x1 : Str} {k1 : Tok} {v1 w1 : Value} (D : Mem h h' [] [(a0, o0), (a1, o1), (a2, o2), (a3, o3), (a4, o4)]) (e3 : o3 = excObj C a0 a1)
    (e0 : o0 = { cls := .type "dict", data := .dict ⟨[⟨h1, .str x1 k1, v1⟩]⟩ 1 }) (g1 : x1 = Str.ofString "text") (d1 : v1 = w1) : NewX h h' a3 C a0 a1 (sDict h1 k1 w1) := by
  subst g1 d1
  exact newX_of D e3 e0
end Mine
end

section
open PySem PySem.W PySem.Spec PySem.Calls PyProof.Rows
set_option maxRecDepth 100000
namespace Mine
/-- a tree of steps that calls nothing and leaves every object's dict as it is -/
noncomputable def CK {α : Type} : Sem α → Prop
  | .pure _ => True
  | .raise _ => True
  | .unsupported _ => True
  | .finish _ => True
  | .rule _ k => CK (k ())
  | .at _ k => CK (k ())
  | .load _ _ k => ∀ o, CK (k o)
  | .update _ _ f k => (∀ o, (f o).dict = o.dict ∧ (f o).isFreed = o.isFreed) ∧ CK (k ())
  | .alloc _ k => ∀ a, CK (k a)
  | .register _ _ => True
  | .ask k => ∀ x, CK (k x)
  | .stack k => ∀ l, CK (k l)
  | .point _ k => CK (k ())
  | .loadIfAlive _ k => ∀ o, CK (k o)
  | _ => False

theorem CK_bind' {α β : Type} {f : α → Sem β} (hf : ∀ a, CK (f a)) : ∀ (m : Sem α), CK m → CK (m.bind f) := by
  intro m
  induction m <;> intro h <;> first
    | exact trivial
    | exact hf _
    | exact (h : False).elim
    | (rename_i ih; exact ⟨h.1, ih _ h.2⟩)
    | (rename_i ih; exact ih _ h)
    | (rename_i ih; exact fun o => ih o (h o))
theorem CK_bind {α β : Type} {m : Sem α} {f : α → Sem β} (hm : CK m) (hf : ∀ a, CK (f a)) : CK (m >>= f) := CK_bind' hf m hm
theorem CK_pure {α : Type} (a : α) : CK (pure a : Sem α) := trivial
theorem CK_uns {α : Type} (a : String) : CK (unsupported a : Sem α) := trivial

noncomputable def KD (h h' : Heap) : Prop := (∀ b o, h.get? b = some o → ∃ o', h'.get? b = some o' ∧ o'.dict = o.dict) ∧ h.objs.size ≤ h'.objs.size
theorem KD.refl (h : Heap) : KD h h := ⟨fun _ o e => ⟨o, e, rfl⟩, Nat.le_refl _⟩
theorem KD.push {H h : Heap} {o : Obj} (k : KD H h) : KD H (h.push o) := ⟨fun b x e => let ⟨o', e', d⟩ := k.1 b x e; ⟨o', Heap.get?_push_of_some _ e', d⟩, by rw [Heap.size_push]; exact Nat.le_succ_of_le k.2⟩
theorem KD.upd {H h : Heap} {a : Addr} {f : Obj → Obj} (k : KD H h) (hf : ∀ o, (f o).dict = o.dict ∧ (f o).isFreed = o.isFreed) : KD H (h.update a f) := ⟨fun b x e => by
  obtain ⟨o', e', d⟩ := k.1 b x e
  by_cases q : a = b
  · subst q
    exact ⟨f o', Heap.get?_update_self f e' (((hf o').2).trans (Heap.get?_some_iff.mp e').2), ((hf o').1).trans d⟩
  · exact ⟨o', (Heap.get?_update_other _ _ q).trans e', d⟩, by rw [Heap.size_after_update]; exact k.2⟩

theorem wp_CK {α : Type} {M : Model} {Γ : PySem.Ctx} {Q : α → Pos → Shared → Prop} {E : Value → Pos → Shared → Prop} (H : Heap) : ∀ (t : Sem α) (p : Pos) (s : Shared), CK t → KD H s.heap → Sem.wp M Γ t Q E p s →
    Sem.wp M Γ t (fun a p' s' => Q a p' s' ∧ KD H s'.heap) E p s := by
  intro t
  induction t <;> intro p s hc hk hw <;> first
    | exact (hc : False).elim
    | exact (hw : False).elim
    | exact (hw : E _ p s)
    | exact ⟨hw, hk⟩
    | (rename_i ih; obtain ⟨o, ho, hw⟩ := hw; exact ⟨o, ho, ih o p s (hc o) hk hw⟩)
    | (rename_i ih; exact ⟨hw.1, ih _ p _ hc.2 (hk.upd hc.1) hw.2⟩)
    | (rename_i ih; exact ih _ _ _ (hc _) (by first | exact hk.push | exact hk) hw)
    | (rename_i ih; exact ih _ _ _ hc (by first | exact hk.push | exact hk) hw)
theorem wpAny_CK {α : Type} {M : Model} {A : Around} {Q : α → Shared → Prop} {E : Value → Shared → Prop} {s : Shared} {t : Sem α} (hc : CK t) (h : wpAny M A t Q E s) :
    wpAny M A t (fun a s' => Q a s' ∧ KD s.heap s'.heap) E s := fun Γ p hΓ => wp_CK s.heap t p s hc (KD.refl _) (h Γ p hΓ)

theorem CK_field (v : Value) (i : Nat) : CK (field v i) := by
  unfold field fieldsOf
  refine CK_bind ?_ fun vs => ?_
  · cases v <;> first | exact CK_uns _ | skip
    refine CK_bind (fun o => trivial) fun o => ?_
    split <;> trivial
  · split <;> trivial
theorem mapFields_ck (f : Array Value → Array Value) (o : Obj) : (Obj.mapFields f o).dict = o.dict ∧ (Obj.mapFields f o).isFreed = o.isFreed := by
  obtain ⟨c, d, dt, sl⟩ := o
  cases dt <;> exact ⟨rfl, rfl⟩
theorem CK_setField (v : Value) (i : Nat) (x : Value) : CK (setField v i x) := by
  unfold setField
  cases v <;> first | exact CK_uns _ | skip
  unfold updateField
  refine CK_bind (fun o => trivial) fun o => ?_
  split
  · split
    · exact ⟨fun o => mapFields_ck _ o, trivial⟩
    · trivial
  · trivial
theorem CK_setFlight (e : Value) (f : Option Addr) : CK (setFlight e f) := by
  unfold setFlight
  refine CK_bind (CK_field _ _) fun tb => ?_
  split
  · exact CK_setField _ _ _
  · trivial
theorem CK_stack : CK stack := fun _ => trivial
theorem CK_behindIsImport (env : Env) (outer : List Env) : CK (behindIsImport env outer) := by
  unfold behindIsImport
  repeat (first | exact trivial | refine CK_bind (CK_field _ _) fun _ => ?_ | split | refine CK_bind trivial fun _ => ?_)
theorem CK_under : CK underTheClaimsCaller := by
  unfold underTheClaimsCaller
  repeat (first | exact trivial | refine CK_bind CK_stack fun _ => ?_ | split)
theorem CK_keptBack (env : Env) (b : Bool) (l : List Env) : CK (keptBack env b l) := by
  unfold keptBack
  split
  · split
    · trivial
    · refine CK_bind CK_under fun _ => ?_
      split <;> trivial
  · split
    · trivial
    · split <;> trivial
theorem CK_readyFrames : ∀ l : List Env, CK (readyFrames l)
  | [] => trivial
  | env :: outer => by
    unfold readyFrames
    split
    · refine CK_bind (fun o => trivial) fun o => ?_
      split
      · trivial
      · refine CK_bind (CK_behindIsImport _ _) fun _ => CK_bind (CK_keptBack _ _ _) fun _ => CK_bind ⟨fun o => ⟨rfl, by obtain ⟨_, _, dt, _⟩ := o; cases dt <;> rfl⟩, trivial⟩ fun _ => CK_readyFrames outer
    · trivial
theorem CK_frameOf (env : Env) : CK (PySem.frameOf env) := by
  unfold PySem.frameOf frameEnvs
  refine CK_bind (CK_bind CK_stack fun _ => trivial) fun l => CK_bind ?_ fun o => ?_
  · unfold frameObject
    split
    · trivial
    · exact CK_bind (CK_readyFrames _) fun _ => trivial
  · split <;> trivial
theorem CK_newEntry (a b c d e : Value) (l : List Value) : CK (EntryCells.newEntry a b c d e l) := by
  unfold EntryCells.newEntry newFields newObj newObjAsIs
  dsimp only
  repeat (first | exact trivial | split | refine CK_bind (m := alloc _) (fun _ => trivial) fun _ => ?_ | refine CK_bind (CK_uns _) fun _ => ?_)
theorem CK_entryPlaceOf (f : Addr) (b : Bool) : CK (entryPlaceOf f b) := by
  unfold entryPlaceOf
  refine CK_bind CK_stack fun _ => ?_
  split <;> trivial
theorem CK_noteFrame (e : Value) (env : Env) : CK (noteFrame e env) := by
  unfold noteFrame
  split
  · rename_i f hf
    refine CK_bind (CK_field _ _) fun head => ?_
    have tl : CK (do setField e 1 (← EntryCells.newEntry head (← PySem.frameOf env) .none (rawInt f) .none (← entryPlaceOf f (head != .none)))) :=
      CK_bind (CK_frameOf _) fun _ => CK_bind (CK_entryPlaceOf _ _) fun _ => CK_bind (CK_newEntry ..) fun _ => CK_setField _ _ _
    split
    · refine CK_bind (CK_field _ _) fun _ => ?_
      split
      · trivial
      · exact CK_bind (CK_setField _ _ _) fun _ => tl
    · exact tl
  · trivial
theorem CK_leaving (env : Env) (e : Value) : CK (leaving env e) := CK_bind (CK_noteFrame e env) fun _ => CK_setFlight e none
end Mine
end

section
open PySem PySem.W PySem.Spec PySem.Calls PyProof.Rows
set_option maxRecDepth 100000
namespace Mine
/-- what stood in g, but for frames' slots, stands in h -/
structure Turns (l : List Env) (g h : Heap) : Prop where
  slots : g.UpToSlots h
  keep : ∀ b o, g.get? b = some o → b ∉ l.filterMap (·.frame) → h.get? b = some o
  size : g.objs.size ≤ h.objs.size
/-- an exception of class C, its dict dx holding od, is under way beneath the frames l -/
structure FlyD (base g : Heap) (l : List Env) (e C dx : Addr) (od : Obj) (h : Heap) : Prop where
  turns : Turns l g h
  enew : g.get? e = none
  dnew : g.get? dx = none
  edict : ∃ oe, h.get? e = some oe ∧ oe.dict = some dx
  inB : ∃ B t, base.StaysIn B ∧ (∀ b o, g.get? b = some o → b ∉ l.filterMap (·.frame) → B.get? b = some o) ∧ B.get? dx = some od ∧ Heap.FlyingW B l e (.ref C) (.ref t) h
theorem FlyD.dict {base g h : Heap} {l : List Env} {e C dx : Addr} {od : Obj} (x : FlyD base g l e C dx od h) : h.get? dx = some od := by
  obtain ⟨B, t, _, _, hd, hf⟩ := x.inB
  exact hf.1 _ _ hd

section
variable {M : Model} {A : Around} {E : Value → Shared → Prop} {s' : Shared} {base g g₂ h : Heap} {outer : List Env} {L a e C dx t : Addr} {od : Obj} {m : Str → Option Value} {name : Str} {scope : Scope} {cd : Value} {Q : Unit → Shared → Prop}
theorem get_size {h h' : Heap} (k : ∀ b o, h.get? b = some o → ∃ o', h'.get? b = some o') (hs : ∀ n, h.objs.size = n + 1 → ∃ o, h.get? n = some o) : h.objs.size ≤ h'.objs.size := by
  cases q : h.objs.size with
  | zero => exact Nat.zero_le _
  | succ n =>
    obtain ⟨o, ho⟩ := hs n q
    obtain ⟨o', ho'⟩ := k n o ho
    exact Heap.lt_size ho'
theorem fr_not {h h' : Heap} {l : List Env} {b : Addr} (hl : h.FunFrames h' l) (hb : h.get? b = none) : b ∉ l.filterMap (·.frame) := fun hm => by
  obtain ⟨_, o, ho, _⟩ := hl.mem hm
  rw [hb] at ho; cases ho
theorem leave_newD (K : Below A base outer g) (hx : NewX h s'.heap e C dx t od) (F : Fr g L h m)
    (hQ : ∀ h', FlyD base g outer e C dx od h' → Q () { s' with heap := h' }) (hk : scope.kind = .function := by rfl) :
    wpAny M (A.deeper (envOf name scope L a cd)) (leaving (envOf name scope L a cd) (.ref e)) Q E s' := by
  have K' := K.push (name := name) (a := a) (cd := cd) F hk
  have hin : ∀ env ∈ (envOf name scope L a cd :: outer), ∀ b, env.frame = some b → b ∈ e :: (envOf name scope L a cd :: outer).filterMap (·.frame) := fun env he b hb => .tail _ (List.mem_filterMap.mpr ⟨env, he, hb⟩)
  have hfr := K'.frames.of_keeps (h' := s'.heap) fun b o hb _ => ⟨o, hx.keep b o hb, rfl⟩
  have nfr : ∀ b, b ∈ (envOf name scope L a cd :: outer).filterMap (·.frame) → ∃ o, h.get? b = some o := fun b hm => by
    obtain ⟨_, o, ho, _⟩ := K'.frames.mem hm
    exact ⟨o, ho⟩
  have stay : ∀ b o, h.get? b = some o → b ∉ (envOf name scope L a cd :: outer).filterMap (·.frame) → (hideAll s'.heap (e :: (envOf name scope L a cd :: outer).filterMap (·.frame))).get? b = some o := fun b o q nm => hideAll_get _ (hx.keep b o q) fun hm => by
    rcases List.mem_cons.mp hm with z | z
    · rw [z, hx.new] at q; cases q
    · exact nm z
  have st : base.StaysIn (hideAll s'.heap (e :: (envOf name scope L a cd :: outer).filterMap (·.frame))) := fun b o q => stay b o (K'.stays b o q) fun hm => by
    rw [(K'.frames.mem hm).1] at q; cases q
  have sg : ∀ b o, g.get? b = some o → b ∉ outer.filterMap (·.frame) → (hideAll s'.heap (e :: (envOf name scope L a cd :: outer).filterMap (·.frame))).get? b = some o := fun b o q nm => stay b o (F.keep b o q) fun hm => by
    rcases kts_mem hm with z | z
    · rw [z, kts_self F] at q; cases q
    · exact nm z
  have sd : (hideAll s'.heap (e :: (envOf name scope L a cd :: outer).filterMap (·.frame))).get? dx = some od := hideAll_get _ hx.dict fun hm => by
    rcases List.mem_cons.mp hm with z | z
    · exact hx.ne z
    · obtain ⟨o, ho⟩ := nfr _ z
      rw [hx.dnew] at ho; cases ho
  have hen : (hideAll s'.heap (e :: (envOf name scope L a cd :: outer).filterMap (·.frame))).get? e = none := hideAll_none _ (.head _)
  refine wpAny_mono (wpAny_CK (CK_leaving _ _) (wpAny_leaving_firstW (Q := fun _ s'' => ∃ h', s'' = { s' with heap := h' } ∧ Heap.LeftW (hideAll s'.heap (e :: (envOf name scope L a cd :: outer).filterMap (·.frame))) (envOf name scope L a cd :: outer) e (.ref C) (.ref t) s'.heap h')
    (a0 := .ref t) K'.stack (funFrames_hide hfr hin) rfl hx.there (fun b o hb => of_hideAll _ hb) hen rfl rfl rfl fun h' hL => ⟨h', rfl, hL⟩)) (fun _ s'' y => ?_) fun _ _ y => y
  obtain ⟨⟨h', rfl, k1, ⟨_, _, k2⟩, k3, k4⟩, kd⟩ := y
  have us : s'.heap.UpToSlots h' := k4
  have up : g.UpToSlots h' := ((Heap.UpToSlots.of_keeps F.keep).trans (Heap.UpToSlots.of_keeps hx.keep)).trans us
  obtain ⟨oe, hoe, hod⟩ := kd.1 _ _ hx.there
  refine hQ h' ⟨⟨up, fun b o q nm => k1 _ _ (sg b o q nm), ?_⟩, ?_, ?_, ⟨oe, hoe, hod⟩, _, t, st, sg, sd, k1, hen, k2, k3⟩
  · refine Nat.le_trans F.above ?_
    exact Nat.le_of_lt (by obtain ⟨sl, hs⟩ := us _ _ (hx.keep _ _ F.ns.choose_spec.choose_spec.choose_spec.1) (fun vs q => by rw [F.ns.choose_spec.choose_spec.choose_spec.2.1] at q; cases q); exact Heap.lt_size hs)
  · exact kts_none F.keep hx.new
  · exact kts_none F.keep hx.dnew

theorem leave_onD (K : Below A base outer g) (F : Fr g L g₂ m) (R : FlyD base g₂ (envOf name scope L a cd :: outer) e C dx od s'.heap)
    (hQ : ∀ h', FlyD base g outer e C dx od h' → Q () { s' with heap := h' }) :
    wpAny M (A.deeper (envOf name scope L a cd)) (leaving (envOf name scope L a cd) (.ref e)) Q E s' := by
  obtain ⟨⟨t1, t2, t3⟩, n1, n2, ⟨oe, hoe, hod⟩, B, t, b1, b2, b3, b4⟩ := R
  have nL : ∀ b o, g.get? b = some o → b ∉ outer.filterMap (·.frame) → b ∉ (envOf name scope L a cd :: outer).filterMap (·.frame) := fun b o q nm hm => by
    rcases kts_mem hm with z | z
    · rw [z, kts_self F] at q; cases q
    · exact nm z
  refine wpAny_mono (wpAny_CK (CK_leaving _ _) (wpAny_leaves_onW (Q := fun _ s'' => ∃ h', s'' = { s' with heap := h' } ∧ Heap.FlyingW B outer e (.ref C) (.ref t) h' ∧ s'.heap.UpToSlots h') (Around.frames_deeper K.stack) rfl b4 fun h' x1 x2 => ⟨h', rfl, x1, x2⟩)) (fun _ s'' y => ?_) fun _ _ y => y
  obtain ⟨⟨h', rfl, x1, x2⟩, kd⟩ := y
  obtain ⟨oe', hoe', hod'⟩ := kd.1 _ _ hoe
  refine hQ h' ⟨⟨((Heap.UpToSlots.of_keeps F.keep).trans t1).trans x2, fun b o q nm => x1.1 _ _ (b2 b o (F.keep b o q) (nL b o q nm)), ?_⟩, kts_none F.keep n1, kts_none F.keep n2, ⟨oe', hoe', hod'.trans hod⟩, B, t, b1, fun b o q nm => b2 b o (F.keep b o q) (nL b o q nm), b3, x1⟩
  obtain ⟨oL, es, ep, hoL, hd, _⟩ := F.ns
  obtain ⟨sl, hs⟩ := (t1.trans x2) _ _ hoL (fun vs q => by rw [hd] at q; cases q)
  exact Nat.le_of_lt (Nat.lt_of_le_of_lt F.above (Heap.lt_size hs))
end

section
variable {M : Model} {A : Around} {E : Value → Shared → Prop} {env : Env}
variable {nm q : Str} {C N : Addr} {bs bm : List Value} {hdct : Bool} {sn : List Str} {sub : List Value} {ab : Bool} {col : Option Bool} {dd : Option Addr} {k0 k1 k2 k3 k5 : Option Value} {newId : String}
theorem raiseStmt_dx {s : Shared} {x : Sem Value} {Q : Flow → Shared → Prop} (hbase : bm.contains (.type "BaseException") = true) (hh : A.handled = none)
    (h : wpAny M A x (fun v s₁ => ∃ e dx t, v = .ref e ∧ s₁.heap.get? C = some (excClassObj nm q C N bs bm hdct sn sub ab col dd k0 k1 k2 k3 k5 newId) ∧
      s₁.heap.get? e = some (excObj C dx t) ∧ E (.ref e) s₁) E s) :
    wpAny M A (raiseStmt env (some x) none) Q E s := by
  have hcB : (Value.ref C :: bm).contains (.type "BaseException") = true := by rw [List.contains_cons, hbase, Bool.or_true]
  unfold raiseStmt
  refine wpAny_bind (wpAny_mono h (fun v s₁ h₁ => ?_) fun _ _ x => x)
  obtain ⟨e, dx, t, rfl, hC, he, hE⟩ := h₁
  unfold excObj at he
  obtain ⟨hp, g, d, tk, os⟩ := s₁
  repeat (first | with_reducible refine wpAny_loadPart_at he ?_ | with_reducible refine wpAny_loadPart_at hC ?_ | (with_reducible refine wpAny_isSubtype_exc hC ?_; rw [hcB]) | wp_step)
  exact wpAny_raiseNew_none hh hE
end
end Mine
end

section
open PySem PySem.W PyProof.Rows PySem.W.X
set_option maxRecDepth 100000
set_option maxHeartbeats 8000000
namespace Mine
noncomputable def idxOf (size : Int) : Int := if size = 1 then 0 else if size = 2 then 1 else if size = 4 then 2 else 3
section
set_option hygiene false in
local macro_rules | `(tactic| x_close) => `(tactic| ((refine' hQ _ _ _ _ _ _ _ _ _ _ _ (newQ_of ?D ?e3 ?e0 ?g1 ?d1 ?g2 ?d2 ?g3 ?d3)); (case D => assumption); (case e3 => exact rfl); (case e0 => exact rfl); (case g1 => kernel_rfl); (case g2 => kernel_rfl); (case g3 => kernel_rfl); (case d1 => exact rfl); (case d2 => exact rfl); (case d3 => kernel_rfl)))
theorem q1_x {prg : Program} (w : World) (outer : List Env) (gd : Option (List Code)) (s : Shared) (KX : (Mine.K2 w.params).In s.heap) (t1 t2 t3 : Tok) (Q : Value → Shared → Prop) (E : Value → Shared → Prop)
   (hQ : ∀ e dx t h' tk h1 h2 h3 k1 k2 k3, NewX s.heap h' e 31 dx t (qDict h1 h2 h3 k1 k2 k3 (.int 1 t1) (.int 0 t2) (.str (Str.ofString "a number that has no such octets") t3)) → Q (.ref e) { s with heap := h', toks := tk }) :
   wpAny (model prg w) (xA outer gd) (call (.ref 31) [.int 1 t1, .int 0 t2, .str (Str.ofString "a number that has no such octets") t3]) Q E s := by
  x_run
theorem q2_x {prg : Program} (w : World) (outer : List Env) (gd : Option (List Code)) (s : Shared) (KX : (Mine.K2 w.params).In s.heap) (t1 t2 t3 : Tok) (Q : Value → Shared → Prop) (E : Value → Shared → Prop)
   (hQ : ∀ e dx t h' tk h1 h2 h3 k1 k2 k3, NewX s.heap h' e 31 dx t (qDict h1 h2 h3 k1 k2 k3 (.int 1 t1) (.int 0 t2) (.str (Str.ofString "a number that is too great") t3)) → Q (.ref e) { s with heap := h', toks := tk }) :
   wpAny (model prg w) (xA outer gd) (call (.ref 31) [.int 1 t1, .int 0 t2, .str (Str.ofString "a number that is too great") t3]) Q E s := by
  x_run
theorem q3_x {prg : Program} (w : World) (outer : List Env) (gd : Option (List Code)) (s : Shared) (KX : (Mine.K2 w.params).In s.heap) (t1 t2 t3 : Tok) (Q : Value → Shared → Prop) (E : Value → Shared → Prop)
   (hQ : ∀ e dx t h' tk h1 h2 h3 k1 k2 k3, NewX s.heap h' e 31 dx t (qDict h1 h2 h3 k1 k2 k3 (.int 1 t1) (.int 0 t2) (.str (Str.ofString "a size in which a number has no room") t3)) → Q (.ref e) { s with heap := h', toks := tk }) :
   wpAny (model prg w) (xA outer gd) (call (.ref 31) [.int 1 t1, .int 0 t2, .str (Str.ofString "a size in which a number has no room") t3]) Q E s := by
  x_run
end
section
set_option hygiene false in
local macro_rules | `(tactic| x_close) => `(tactic| ((refine' hQ _ _ _ _ _ _ _ (newS_of ?D ?e3 ?e0 ?g1 ?d1)); (case D => assumption); (case e3 => exact rfl); (case e0 => exact rfl); (case g1 => kernel_rfl); (case d1 => kernel_rfl)))
theorem s1_x {prg : Program} (w : World) (outer : List Env) (gd : Option (List Code)) (s : Shared) (KX : (Mine.K2 w.params).In s.heap) (t3 : Tok) (Q : Value → Shared → Prop) (E : Value → Shared → Prop)
   (hQ : ∀ e dx t h' tk h1 k1, NewX s.heap h' e 51 dx t (sDict h1 k1 (.str (Str.ofString "a number ends too early") t3)) → Q (.ref e) { s with heap := h', toks := tk }) :
   wpAny (model prg w) (xA outer gd) (call (.ref 51) [.str (Str.ofString "a number ends too early") t3]) Q E s := by
  x_run
end
section
set_option hygiene false in
local macro_rules | `(tactic| x_close) => `(tactic| (rename Mem _ _ _ _ => D; exact ⟨_, _, rfl, rfl, mem_keeps D, (D.nw _ (.head _)).2, D.at 0 _ _ rfl⟩))
theorem banew_x {prg : Program} (w : World) (outer : List Env) (gd : Option (List Code)) (s : Shared) (KX : (Mine.K2 w.params).In s.heap) (n : Int) (t : Tok) (E : Value → Shared → Prop) :
   wpAny (model prg w) (xA outer gd) (call (.builtin "bytearray.__new__") [.type "bytearray", .int n t]) (fun v s₁ => ∃ S h', v = .ref S ∧ s₁ = { s with heap := h' } ∧ (∀ b o, s.heap.get? b = some o → h'.get? b = some o) ∧ s.heap.get? S = none ∧ h'.get? S = some { cls := .type "bytearray", data := .bytearray #[] 0 }) E s := by
  x_run
set_option hygiene false in
local macro_rules | `(tactic| x_close) => `(tactic| exact hQ _)
theorem bytes_x {prg : Program} (w : World) (outer : List Env) (gd : Option (List Code)) (s : Shared) (KX : (Mine.K2 w.params).In s.heap) (b : Addr) (arr : Array UInt8) (hs : arr.size ≤ 8) (hb : s.heap.get? b = some ⟨.type "bytearray", none, .bytearray arr 0, #[]⟩) (Q : Value → Shared → Prop) (E : Value → Shared → Prop)
   (hQ : ∀ t, Q (.bytes arr t) { s with toks := s.toks + 1 }) :
   wpAny (model prg w) (xA outer gd) (call (.type "bytes") [.ref b]) Q E s := by
  x_run
end
section
set_option hygiene false in
local macro_rules | `(tactic| x_close) => `(tactic| exact hQ _)
theorem index_x {prg : Program} (w : World) (outer : List Env) (gd : Option (List Code)) (s : Shared) (KX : (Mine.K2 w.params).In s.heap) (size : Int) (t : Tok) (hs : size = 1 ∨ size = 2 ∨ size = 4 ∨ size = 8) (Q : Value → Shared → Prop) (E : Value → Shared → Prop)
   (hQ : ∀ t, Q (.int (idxOf size) t) { s with toks := s.toks + 1 }) :
   wpAny (model prg w) (xA outer gd) (call (.builtin "tuple.index") [.ref 55, .int size t]) Q E s := by
  rcases hs with rfl | rfl | rfl | rfl
  · have hQ : ∀ t, Q (.int 0 t) { s with toks := s.toks + 1 } := hQ
    x_run
  · have hQ : ∀ t, Q (.int 1 t) { s with toks := s.toks + 1 } := hQ
    x_run
  · have hQ : ∀ t, Q (.int 2 t) { s with toks := s.toks + 1 } := hQ
    x_run
  · have hQ : ∀ t, Q (.int 3 t) { s with toks := s.toks + 1 } := hQ
    x_run
end
end Mine
end

section
open PySem PySem.W PySem.Spec PySem.Calls PyProof.Rows
set_option maxRecDepth 100000
namespace Mine
/-- a code that holds no bytes-like object fast -/
noncomputable def offC : Code → Bool
  | .builtin id _ => !(Builtin.Bytes.decodersThatHold.contains id || guardIds.contains id)
  | _ => true
noncomputable def OffG (Γ : PySem.Ctx) : Prop := offC Γ.code = true ∧ ∀ x ∈ Γ.below, offC x.1 = true
noncomputable def wpC {α : Type} (M : Model) (A : Around) (t : Sem α) (Q : α → Shared → Prop) (E : Value → Shared → Prop) (s : Shared) : Prop :=
  ∀ Γ p, Γ.In A → OffG Γ → Sem.wp M Γ t (fun a _ s' => Q a s') (fun e _ s' => E e s') p s
noncomputable def codeC (M : Model) (A : Around) (c : Code) (R : Result → Shared → Prop) (s : Shared) : Prop :=
  ∀ Γ p, Γ.code = c → Γ.Below A → OffG Γ → wpCode M Γ R p s
section
variable {α β : Type} {M : Model} {A : Around} {E : Value → Shared → Prop} {s : Shared}
theorem wpC_any {t : Sem α} {Q : α → Shared → Prop} (h : wpAny M A t Q E s) : wpC M A t Q E s := fun Γ p hΓ _ => h Γ p hΓ
theorem codeC_any {c : Code} {R : Result → Shared → Prop} (h : codeAny M A c R s) : codeC M A c R s := fun Γ p hc hΓ _ => h Γ p hc hΓ
theorem wpC_pure {a : α} {Q : α → Shared → Prop} (h : Q a s) : wpC M A (pure a) Q E s := fun _ _ _ _ => h
theorem wpC_mono {t : Sem α} {Q Q' : α → Shared → Prop} {E' : Value → Shared → Prop} (h : wpC M A t Q E s) (hQ : ∀ a s, Q a s → Q' a s) (hE : ∀ e s, E e s → E' e s) : wpC M A t Q' E' s :=
  fun Γ p hΓ ho => Sem.wp_mono M Γ t (fun a _ s => hQ a s) (fun e _ s => hE e s) p s (h Γ p hΓ ho)
theorem codeC_mono {c : Code} {R R' : Result → Shared → Prop} (h : codeC M A c R s) (hR : ∀ r s, R r s → R' r s) : codeC M A c R' s := fun Γ p hc hΓ ho => wpCode_mono hR (h Γ p hc hΓ ho)
theorem wpC_bind {m : Sem α} {f : α → Sem β} {Q : β → Shared → Prop} (h : wpC M A m (fun a s' => wpC M A (f a) Q E s') E s) : wpC M A (m >>= f) Q E s := fun Γ p hΓ ho => by
  rw [Sem.wp_bind']
  exact Sem.wp_mono M Γ m (fun a p' s' h' => h' Γ p' hΓ ho) (fun _ _ _ h' => h') p s (h Γ p hΓ ho)
theorem wpC_bind_any {m : Sem α} {f : α → Sem β} {Q : β → Shared → Prop} (h : wpAny M A m (fun a s' => wpC M A (f a) Q E s') E s) : wpC M A (m >>= f) Q E s := wpC_bind (wpC_any h)
theorem wpC_onRaise {m : Sem α} {k : Value → Sem Unit} {Q : α → Shared → Prop} (h : wpC M A m Q (fun e s' => wpC M A (k e) (fun _ s'' => E e s'') E s') s) : wpC M A (m.onRaise k) Q E s := fun Γ p hΓ ho => by
  rw [Sem.wp_onRaise]
  exact Sem.wp_mono M Γ m (fun _ _ _ h' => h') (fun e p' s' h' => h' Γ p' hΓ ho) p s (h Γ p hΓ ho)
theorem wpC_tryCatch {m : Sem α} {k : Value → Sem α} {Q : α → Shared → Prop} (h : wpC M A m Q (fun e s' => wpC M A (k e) Q E s') s) : wpC M A (tryCatch m k) Q E s := fun Γ p hΓ ho => by
  rw [Sem.wp_tryCatch']
  exact Sem.wp_mono M Γ m (fun _ _ _ h' => h') (fun e p' s' h' => h' Γ p' hΓ ho) p s (h Γ p hΓ ho)
theorem wpC_attempt {m : Sem α} {Q : Except Value α → Shared → Prop} (h : wpC M A m (fun a => Q (.ok a)) (fun e => Q (.error e)) s) : wpC M A m.attempt Q E s := fun Γ p hΓ ho => by rw [Sem.wp_attempt]; exact h Γ p hΓ ho
theorem wpC_holding {vs : List Value} {m : Sem α} {Q : α → Shared → Prop} (h : wpC M A m Q E s) : wpC M A (holding vs m) Q E s := fun Γ p hΓ ho => by rw [Sem.wp_holding]; exact h Γ p hΓ ho
theorem wpC_map {m : Sem α} {f : α → β} {Q : β → Shared → Prop} (h : wpC M A m (fun a s' => Q (f a) s') E s) : wpC M A (f <$> m) Q E s := fun Γ p hΓ ho => by rw [Sem.wp_map]; exact h Γ p hΓ ho
theorem wpC_standAt {pos : Pos} {Q : Unit → Shared → Prop} (h : Q () s) : wpC M A (standAt pos) Q E s := fun _ _ _ _ => h
theorem wpC_point {Q : Unit → Shared → Prop} (h : Q () s) : wpC M A point Q E s := fun _ _ _ _ => h
theorem offG_enter {Γ : PySem.Ctx} (ho : OffG Γ) {c : Code} (hc : offC c = true) (h : Option Value) (p : Pos) : OffG (Γ.enter c h p) :=
  ⟨hc, fun x hx => by
    rcases List.mem_cons.mp hx with rfl | hx
    · exact ho.1
    · exact ho.2 x hx⟩
theorem wpC_run {c : Code} {h : Option Value} {Q : Flow → Shared → Prop} (hoff : offC c = true)
    (hc : codeC M (A.mark h) c (fun r s' => match r with | .ok f => Q f s' | .error e => E e s') s) (hnb : h ≠ some byPass := by intro x; cases x) : wpC M A (run c h) Q E s :=
  fun Γ p hΓ ho => by rw [Sem.wp_run]; exact hc _ p rfl (hΓ.enter c h p hnb) (offG_enter ho hoff h p)
theorem wpC_runValue {c : Code} {Q : Value → Shared → Prop} (hoff : offC c = true)
    (hc : codeC M A c (fun r s' => match r with | .ok (.ret v) => Q v s' | .ok _ => False | .error e => E e s') s) : wpC M A (runValue c) Q E s :=
  fun Γ p hΓ ho => by rw [Sem.wp_runValue]; exact hc _ p rfl (hΓ.enter c none p (by intro x; cases x)) (offG_enter ho hoff none p)
theorem wpC_call {f : Value} {pos : List Value} {kw : List (Str × Value)} {Q : Value → Shared → Prop}
    (hc : codeC M A (.call f ⟨pos, kw⟩) (fun r s' => match r with | .ok (.ret v) => Q v s' | .ok _ => False | .error e => E e s') s) : wpC M A (call f pos kw) Q E s := wpC_runValue rfl hc
theorem codeC_of_tree {c : Code} {R : Result → Shared → Prop}
    (h : wpC M (A.under c) (M.den c) (fun fin s' => match fin with | .done f => R (.ok f) s' | .again c' => c'.quiet = true ∧ offC c' = true ∧ codeC M A c' R s') (fun e s' => R (.error e) s') s) : codeC M A c R s := fun Γ p hc hΓ ho => by
  rw [wpCode_iff_wp, hc]
  refine Sem.wp_mono M Γ _ (fun fin p' s' h' => ?_) (fun _ _ _ h' => h') p s (h Γ p (hc ▸ hΓ.in) ho)
  cases fin with
  | done f => exact h'
  | again c' => exact ⟨h'.1, h'.2.2 (Γ.goto c') p' rfl (hΓ.goto c') ⟨h'.2.1, ho.2⟩⟩
theorem wpC_exported {self : Value} {Q : Bool → Shared → Prop} (h : Q false s) : wpC M A (Builtin.Bytes.exported self) Q E s := fun Γ p hΓ ho => by
  unfold Builtin.Bytes.exported
  show (fun a _ s' => Q a s') (List.any ((Γ.code, p) :: Γ.below) _) p s
  refine Eq.mpr (congrArg (fun z => Q z s) (?_ : _ = false)) h
  refine List.any_eq_false.mpr fun x hx => ?_
  have hx' : offC x.1 = true := by
    rcases List.mem_cons.mp hx with rfl | hx
    · exact ho.1
    · exact ho.2 x hx
  clear hx
  obtain ⟨c, q⟩ := x
  cases c with
  | builtin id args =>
    obtain ⟨pos, kw⟩ := args
    have hz : (Builtin.Bytes.decodersThatHold.contains id || guardIds.contains id) = false := by
      have z : (!(Builtin.Bytes.decodersThatHold.contains id || guardIds.contains id)) = true := hx'
      rw [Bool.not_eq_true'] at z
      exact z
    obtain ⟨z1, z2⟩ := Bool.or_eq_false_iff.mp hz
    have n : ∀ t : String, guardIds.contains t = true → id ≠ t := fun t ht e => by rw [e, ht] at z2; cases z2
    have n1 := n "bytearray.__contains__" (by decide +kernel)
    have n2 := n "bytearray.__mod__" (by decide +kernel)
    have n3 := n "bytearray.__rmod__" (by decide +kernel)
    have n4 := n "_struct.pack_into.held" (by decide +kernel)
    have n5 := n "bytearray.find.held" (by decide +kernel)
    clear n hx' hz z2
    delta PySem.Builtin.Bytes.exported.match_1
    dsimp only
    simp only [dif_neg n1, dif_neg n2, dif_neg n3, dif_neg n4, dif_neg n5]
    cases pos with
    | nil => exact Bool.false_ne_true
    | cons a l => 
      show ¬ ((Builtin.Bytes.sameRef a self && Builtin.Bytes.decodersThatHold.contains id) = true)
      rw [z1, Bool.and_false]; exact Bool.false_ne_true
  | _ => exact Bool.false_ne_true
end
end Mine
end

section
open PySem PySem.W PySem.Spec PySem.Calls PyProof.Rows
set_option maxRecDepth 100000
set_option maxHeartbeats 2000000
namespace Mine
theorem offC_builtin {id : String} {args : Args} (h : (Builtin.Bytes.decodersThatHold.contains id || guardIds.contains id) = false) : offC (.builtin id args) = true := by
  show (!_) = true
  rw [h]; rfl
section
variable {prog : Program} {w : World} {A : Around} {E : Value → Shared → Prop} {s : Shared}
theorem codeC_builtin {id : String} {args : Args} {b : Builtin} {R : Result → Shared → Prop} (hb : entryFor table id = some b)
    (h : wpC (model prog w) (A.under (.builtin id args)) (b args)
      (fun fin s' => match fin with | .done f => R (.ok f) s' | .again c' => c'.quiet = true ∧ offC c' = true ∧ codeC (model prog w) A c' R s') (fun e s' => R (.error e) s') s) :
    codeC (model prog w) A (.builtin id args) R s := by
  refine codeC_of_tree ?_
  show wpC _ _ (match entryFor table id with | some b => b args | none => unsupported ((withoutEnding? id "#data").getD id)) _ _ s
  rw [hb]; exact h
theorem codeC_call_builtin {id : String} {args : Args} {R : Result → Shared → Prop} (hq : (Code.builtin id args).quiet = true) (ho : (Builtin.Bytes.decodersThatHold.contains id || guardIds.contains id) = false)
    (h : wpAny (model prog w) A.in1 (checkBuiltinCall id args) (fun _ s₁ => codeC (model prog w) A (.builtin id args) R s₁) (fun e s' => R (.error e) s') s) : codeC (model prog w) A (.call (.builtin id) args) R s := by
  refine codeC_of_tree ?_
  show wpC _ A.in1 (do checkBuiltinCall id args; again (.builtin id args)) _ _ s
  exact wpC_bind_any (wpAny_mono h (fun _ s₁ h₁ => wpC_pure ⟨hq, offC_builtin ho, h₁⟩) fun _ _ h' => h')
theorem wpC_of_eq {α : Type} {m m' : Sem α} {Q : α → Shared → Prop} {M : Model} (e : m = m') (h : wpC M A m' Q E s) : wpC M A m Q E s := e ▸ h
theorem callTypeC {T newId initId : String} {Bi : Builtin} {args : List Value} {Q Q₁ : Value → Shared → Prop} (ft : TypeCalled T newId initId)
    (hct : checkTypeCall T ⟨args, []⟩ = pure ()) (entryI : entryFor table initId = some Bi) (ho : (Builtin.Bytes.decodersThatHold.contains initId || guardIds.contains initId) = false)
    (hnew : wpAny (model prog w) A.in1 (call (.builtin newId) (.type T :: args)) Q₁ E s)
    (hnext : ∀ obj s₁, Q₁ obj s₁ → s₁.TypeIs obj T ∧ argsOk initId ⟨obj :: args, []⟩ ∧
      wpC (model prog w) A.in1.in1 (Bi ⟨obj :: args, []⟩) (fun fin s' => fin = .done (.ret .none) ∧ Q obj s') (fun e s' => E e s') s₁) :
    wpC (model prog w) A (call (.type T) args) Q E s := by
  obtain ⟨c, tl, hmro⟩ := ft.mro
  have hmade := ft.made
  have hsub := ft.sub
  refine wpC_call (codeC_of_tree ?_)
  show wpC _ _ (callAny (.type T) _) _ _ _
  refine wpC_pure ⟨Code.quiet_builtin _ (by decide +kernel), offC_builtin (by decide +kernel), codeC_builtin F.entry_type_call ?_⟩
  rw [Around.under_plain (weight_type_call_type T args []) rfl]
  have h1 := ft.notType
  have h2 := ft.canCreate
  unfold Builtin.«type.__call__»
  simp only [h1, h2, Bool.false_eq_true, if_false, hct, hmro, hmade, pure_bind, List.isEmpty_cons]
  refine wpC_bind_any (wpAny_holding (wpAny_mono hnew (fun obj s₁ hr => ?_) fun _ _ x => x))
  obtain ⟨hT, hok, hsi⟩ := hnext _ _ hr
  have hli := ft.init.lookup
  have hbi := ft.init.bind obj
  refine wpC_bind_any (m := isInstance obj (.type T)) ?_
  unfold isInstance
  repeat (any_goals (first | assumption | wp_step))
  simp only [Bool.not_true, Bool.false_eq_true, if_false]
  refine wpC_bind (wpC_holding ?_)
  unfold callSpecial?
  refine wpC_bind_any (wpAny_specialOf hT hli ?_)
  refine wpC_holding ?_
  rw [hbi]
  refine wpC_bind (wpC_pure ?_)
  refine wpC_bind (wpC_call (codeC_call_builtin (plainId_quiet ft.init.plain _) ho (ft.init.check _ _ _ _ _ _ _ _ hT hok (codeC_builtin entryI ?_))))
  rw [Around.under_plainId ft.init.plain _]
  refine wpC_mono hsi (fun fin s₂ hf => ?_) fun _ _ x => x
  obtain ⟨rfl, hq⟩ := hf
  exact wpC_pure (wpC_pure hq)
namespace BA
theorem mro : mroOf (.type "bytearray") = pure [.type "bytearray", .type "object"] := by rw [mroOf_type]; kernel_rfl
theorem lookup_new : typeLookup (.type "bytearray") "__new__" = pure (some (.builtin "bytearray.__new__")) := by rw [typeLookup_type, builtinLookup_eq_fast]; kernel_rfl
theorem lookup_init : typeLookup (.type "bytearray") "__init__" = pure (some (.builtin "bytearray.__init__")) := by rw [typeLookup_type, builtinLookup_eq_fast]; kernel_rfl
theorem slot_init : Slot "bytearray" "__init__" "bytearray.__init__" := Slot.of (owner := "bytearray") (n := "__init__") lookup_init (by decide +kernel) (by decide +kernel) (by decide +kernel) (.inl (by decide +kernel)) (by rw [isSubtype_type]; kernel_rfl)
theorem called : TypeCalled "bytearray" "bytearray.__new__" "bytearray.__init__" :=
  ⟨by decide +kernel, by decide +kernel, ⟨_, _, mro⟩, madeBy_type mro lookup_new (by decide +kernel), by decide +kernel, by rw [isSubtype_type]; kernel_rfl, slot_init⟩
theorem typeCall (n : Int) (t : Tok) : checkTypeCall "bytearray" ⟨[.int n t], []⟩ = pure () := by kernel_rfl
theorem entry : entryFor table "bytearray.__init__" = some Builtin.«bytearray.__init__» := entryFor_of_tree (by kernel_rfl)
theorem args_init (a b : Value) : argsOk "bytearray.__init__" ⟨[a, b], []⟩ := by unfold argsOk; kernel_rfl
theorem bind_init (a : Value) : Builtin.Bytes.bindOptional "bytearray.__init__" "bytearray" ["source", "encoding", "errors"] [a] [] = pure [some a, none, none] := by rfl
theorem lookup_rel : typeLookup (.type "bytearray") (Str.ofString "__release_buffer__") = pure (some (.builtin "bytearray.__release_buffer__")) := by rw [typeLookup_type, builtinLookup_eq_fast]; kernel_rfl
theorem lookup_idx : typeLookup (.type "int") (Str.ofString "__index__") = pure (some (.builtin "int.__index__")) := by rw [typeLookup_type, builtinLookup_eq_fast]; kernel_rfl
theorem ends_rel : ("bytearray.__release_buffer__".endsWith ("." ++ "__release_buffer__")) = true := by decide +kernel
theorem drop_rel : ("bytearray.__release_buffer__".dropRight ("__release_buffer__".length + 1)) = "bytearray" := by decide +kernel
end BA
theorem wpAny_write {M : Model} {S : Addr} {b b' : Array UInt8} {f : Array UInt8 → Array UInt8} {Q : Unit → Shared → Prop} (hS : s.heap.get? S = some { cls := .type "bytearray", data := .bytearray b 0 }) (hf : f b = b') (hz : b'.size ≤ sizeLine)
    (h : Q () { s with heap := s.heap.update S (Obj.mapBytearray f) }) : wpAny M A (Builtin.Bytes.write (.ref S) f) Q E s := by
  subst hf
  show wpAny M A (updateBytearray S f) Q E s
  unfold updateBytearray
  refine wpAny_bind (wpAny_load hS (wpAny_bind (wpAny_update hS ?_)))
  refine wpAny_lookBehind (Heap.get?_update_self _ hS rfl) ?_ h
  show (if (f b).size > sizeLine then some "bytearray:memory" else none) = none
  rw [if_neg (Nat.not_lt.mpr hz)]
theorem mapBytearray_at {h : Heap} {S : Addr} {b : Array UInt8} {f : Array UInt8 → Array UInt8} (hS : h.get? S = some { cls := .type "bytearray", data := .bytearray b 0 }) :
    (h.update S (Obj.mapBytearray f)).get? S = some { cls := .type "bytearray", data := .bytearray (f b) 0 } := Heap.get?_update_self _ hS rfl
theorem ownRelease_ba {S : Addr} {Q : Bool → Shared → Prop} (hT : s.TypeIs (.ref S) "bytearray") (h : Q false s) : wpAny (model prog w) A (Builtin.Bytes.ownRelease (.ref S)) Q E s := by
  unfold Builtin.Bytes.ownRelease Builtin.Bytes.slotIsOwn
  refine wpAny_bind (wpAny_bind (wpAny_specialOf hT BA.lookup_rel ?_))
  simp only [BA.ends_rel, BA.drop_rel, Bool.not_true, Bool.false_eq_true, if_false]
  unfold isInstance
  have hsub := BA.called.sub
  repeat (any_goals (first | assumption | wp_step))
theorem bytearray_C {n : Int} {t : Tok} {Q : Value → Shared → Prop} (h0 : 1 ≤ n) (h1 : n ≤ 8)
   (hQ : ∀ S h', (∀ b o, s.heap.get? b = some o → h'.get? b = some o) → s.heap.get? S = none → h'.get? S = some { cls := .type "bytearray", data := .bytearray (Array.replicate n.toNat 0) 0 } → Q (.ref S) { s with heap := h' })
   (hnew : wpAny (model prog w) A.in1 (call (.builtin "bytearray.__new__") [.type "bytearray", .int n t]) (fun v s₁ => ∃ S h', v = .ref S ∧ s₁ = { s with heap := h' } ∧ (∀ b o, s.heap.get? b = some o → h'.get? b = some o) ∧ s.heap.get? S = none ∧ h'.get? S = some { cls := .type "bytearray", data := .bytearray #[] 0 }) E s) :
    wpC (model prog w) A (call (.type "bytearray") [.int n t]) Q E s := by
  refine callTypeC BA.called (BA.typeCall n t) BA.entry (by decide +kernel) hnew ?_
  rintro _ _ ⟨S, h', rfl, rfl, hk, hn0, hS⟩
  have hne : ∀ b o, s.heap.get? b = some o → S ≠ b := fun b o e q => by rw [q, e] at hn0; cases hn0
  refine ⟨⟨_, hS, rfl⟩, BA.args_init _ _, ?_⟩
  have hT : ({ s with heap := h' } : Shared).TypeIs (.ref S) "bytearray" := ⟨_, hS, rfl⟩
  unfold Builtin.«bytearray.__init__»
  simp only [BA.bind_init, pure_bind]
  refine wpC_bind_any (m := Builtin.Bytes.ownRelease _) (ownRelease_ba hT ?_)
  simp only [Bool.false_eq_true, if_false]
  unfold Builtin.Bytes.checkCodecArg
  simp only [pure_bind]
  refine wpC_bind ?_
  unfold orM
  refine wpC_bind (wpC_exported ?_)
  refine wpC_any ?_
  simp only [toBool]
  unfold Builtin.Bytes.exportsOf
  refine wpAny_bind (wpAny_bind (wpAny_load hS (wpAny_pure (wpAny_pure ?_))))
  refine wpC_any ?_
  simp only [gt_iff_lt, Nat.lt_irrefl, decide_false, Bool.false_eq_true, if_false]
  refine wpAny_bind (wpAny_write hS rfl (Nat.zero_le _) ?_)
  have hS2 := mapBytearray_at (f := fun _ => #[]) hS
  have hk2 : ∀ b o, s.heap.get? b = some o → (h'.update S (Obj.mapBytearray fun _ => #[])).get? b = some o := fun b o e =>
    (Heap.get?_update_other _ _ (hne b o e)).trans (hk b o e)
  revert hS2 hk2
  generalize h'.update S (Obj.mapBytearray fun _ => #[]) = h2
  intro hS2 hk2
  refine wpAny_bind (wpAny_of_eq (show asStr? (.int n t) = pure none from rfl) ?_)
  simp only [Option.isSome_none, Bool.false_eq_true, if_false]
  refine wpAny_bind (wpAny_pure (wpAny_bind (wpAny_bind (m := typeOf (.int n t)) (wpAny_pure (wpAny_of_eq BA.lookup_idx ?_)))))
  simp only [Option.isSome_some, if_true]
  have hai : asIndex (.int n t) = pure n := rfl
  rw [hai]
  refine wpAny_bind (wpAny_attempt (wpAny_pure ?_))
  have e1 : Builtin.Bytes.fitsIndex n = true := by
    unfold Builtin.Bytes.fitsIndex
    simp only [Bool.and_eq_true, decide_eq_true_eq]
    omega
  have e2 : (n == 2 ^ 63 - 1) = false := by
    rw [beq_eq_false_iff_ne]
    omega
  have e3 : Builtin.Bytes.tooLong n.toNat = false := by
    unfold Builtin.Bytes.tooLong
    rw [decide_eq_false_iff_not]
    have : (8 : Nat) ≤ sizeLine := by decide
    omega
  simp only [e1, e2, e3, Bool.not_true, Bool.false_eq_true, if_false]
  rw [if_neg (show ¬ n < 0 by omega), if_pos (show 0 < n by omega)]
  refine wpAny_bind (wpAny_rule (wpAny_bind (wpAny_write hS2 rfl ?_ (wpAny_pure ⟨rfl, hQ _ _ ?_ hn0 ?_⟩))))
  · have : (8 : Nat) ≤ sizeLine := by decide
    rw [Array.size_replicate]
    omega
  · exact fun b o e => (Heap.get?_update_other _ _ (hne b o e)).trans (hk2 b o e)
  · exact mapBytearray_at hS2
end
end Mine
end

section
open PySem PySem.W PySem.Spec PySem.Calls PyProof.Rows
set_option maxRecDepth 100000
set_option maxHeartbeats 2000000
namespace Mine
noncomputable abbrev NoE : Value → Shared → Prop := fun _ _ => False
section
variable {α : Type} {M : Model} {A : Around} {E : Value → Shared → Prop} {s : Shared} {env : Env}
theorem wpC_keep {vs : List Value} {m : Sem α} {Q : α → Shared → Prop} (h : wpC M A m Q E s) : wpC M A (m.keep vs) Q E s := fun Γ p hΓ ho => by rw [Sem.wp_keep]; exact h Γ p hΓ ho
theorem wpC_noE {t : Sem α} {Q : α → Shared → Prop} (h : wpC M A t Q NoE s) : wpC M A t Q E s := wpC_mono h (fun _ _ x => x) fun _ _ x => x.elim
theorem execs_C {st : Stmt} {rest : List Stmt} {Q : Flow → Shared → Prop}
    (h : wpC M A (exec st env) (fun f s₁ => match f with | .next => wpC M A (execs rest env) Q E s₁ | f => Q f s₁) E s) : wpC M A (execs (st :: rest) env) Q E s := by
  rw [execs_cons]
  refine wpC_bind (wpC_mono h (fun f s₁ h₁ => ?_) fun _ _ x => x)
  cases f <;> first | exact h₁ | exact wpC_pure h₁
theorem execs_nilC {Q : Flow → Shared → Prop} (h : Q .next s) : wpC M A (execs [] env) Q E s := wpC_pure h
theorem If_C {test : PySem.Expr} {body orelse : List Stmt} {pos : Pos} {Q : Flow → Shared → Prop}
    (h : wpC M A (isTrue test env (eval test env)) (fun b s₁ => match b with | true => wpC M A (execs body env) Q E s₁ | false => wpC M A (execs orelse env) Q E s₁) E s) : wpC M A (exec (.If test body orelse pos) env) Q E s := by
  rw [arm_exec_If]
  refine wpC_bind (wpC_standAt (wpC_bind (wpC_mono h (fun b s₁ h₁ => ?_) fun _ _ x => x)))
  cases b <;> exact h₁
theorem Return_C {e : PySem.Expr} {pos : Pos} {Q : Flow → Shared → Prop} (h : wpC M A (eval e env) (fun v s₁ => Q (.ret v) s₁) E s) : wpC M A (exec (.Return (some e) pos) env) Q E s := by
  rw [arm_exec_Return]
  refine wpC_bind (wpC_standAt ?_)
  show wpC M A (eval e env >>= fun v => pure (.ret v)) Q E s
  exact wpC_bind (wpC_mono h (fun v s₁ h₁ => wpC_pure h₁) fun _ _ x => x)
theorem AssignName_C {x : Str} {pos' pos : Pos} {value : PySem.Expr} {Q : Flow → Shared → Prop}
    (h : wpC M A (eval value env) (fun v s₁ => wpAny M A (storeName env x v) (fun _ => Q .next) E s₁) E s)
    (hs : swapsWith value (some (.Name x pos')) pos.line env = pure false := by rfl) : wpC M A (exec (.Assign [.Name x pos'] value pos) env) Q E s := fun Γ p hΓ ho => by
  simp only [exec_Assign_Name env x pos' value pos hs, Sem.wp_bind', Sem.wp_cmd_standAt, Sem.wp_bindName, Sem.wp_pure']
  exact Sem.wp_mono M Γ _ (fun v _ s₁ h₁ => h₁ Γ _ hΓ) (fun _ _ _ h' => h') _ _ (h Γ _ hΓ ho)
theorem isTrue_notC {x : PySem.Expr} {pos : Pos} {whole : Sem Value} {Q : Bool → Shared → Prop} (h : wpC M A (isTrue x env (eval x env)) (fun b s₁ => Q (!b) s₁) E s) : wpC M A (isTrue (.UnaryOp .Not x pos) env whole) Q E s := by
  rw [arm_isTrue_UnaryOp]
  exact wpC_bind (wpC_mono h (fun b s₁ h₁ => wpC_pure h₁) fun _ _ x => x)
theorem isTrue_callC {f : PySem.Expr} {as : List PySem.Expr} {ks : List Keyword} {pos : Pos} {whole : Sem Value} {Q : Bool → Shared → Prop} (h : wpC M A whole (fun v s₁ => wpAny M A (truthy v) Q E s₁) E s) : wpC M A (isTrue (.Call f as ks pos) env whole) Q E s := by
  show wpC M A (do let v ← whole; standAt (PySem.Expr.Call f as ks pos).pos; holding [v] (truthy v)) Q E s
  exact wpC_bind (wpC_mono h (fun v s₁ h₁ => wpC_bind (wpC_standAt (wpC_holding (wpC_any h₁)))) fun _ _ x => x)
theorem isTrue_orC {x : PySem.Expr} {rest : List PySem.Expr} {pos : Pos} {whole : Sem Value} {Q : Bool → Shared → Prop}
    (h : wpC M A (isTrue x env (eval x env)) (fun b s₁ => match b with | true => Q true s₁ | false => wpC M A (allTrue .Or rest env) Q E s₁) E s) : wpC M A (isTrue (.BoolOp .Or (x :: rest) pos) env whole) Q E s := by
  rw [arm_isTrue_BoolOp]
  show wpC M A (do match BoolOp.Or, ← isTrue x env (eval x env) with | .And, false => pure false | .Or, true => pure true | _, _ => allTrue .Or rest env) Q E s
  refine wpC_bind (wpC_mono h (fun b s₁ h₁ => ?_) fun _ _ x => x)
  cases b <;> first | exact h₁ | exact wpC_pure h₁
theorem allTrue_orC {x : PySem.Expr} {rest : List PySem.Expr} {Q : Bool → Shared → Prop}
    (h : wpC M A (isTrue x env (eval x env)) (fun b s₁ => match b with | true => Q true s₁ | false => wpC M A (allTrue .Or rest env) Q E s₁) E s) : wpC M A (allTrue .Or (x :: rest) env) Q E s := by
  show wpC M A (do match BoolOp.Or, ← isTrue x env (eval x env) with | .And, false => pure false | .Or, true => pure true | _, _ => allTrue .Or rest env) Q E s
  refine wpC_bind (wpC_mono h (fun b s₁ h₁ => ?_) fun _ _ x => x)
  cases b <;> first | exact h₁ | exact wpC_pure h₁
theorem allTrue_or_nilC {Q : Bool → Shared → Prop} (h : Q false s) : wpC M A (allTrue .Or [] env) Q E s := wpC_pure (a := false) h
theorem isTrue_cmpC {l r : PySem.Expr} {op : CmpOp} {pos : Pos} {whole : Sem Value} {Q : Bool → Shared → Prop}
    (h : wpC M A (eval l env) (fun a s₁ => wpC M A (eval r env) (fun b s₂ => wpAny M A (compareOp op a b) (fun c s₃ => wpAny M A (truthy c) Q E s₃) E s₂) E s₁) E s) (hm : behindInMarks op r = false := by rfl) :
    wpC M A (isTrue (.Compare l [op] [r] pos) env whole) Q E s := by
  rw [arm_isTrue_Compare]
  refine wpC_bind (wpC_mono h (fun a s₁ h₁ => ?_) fun _ _ x => x)
  show wpC M A (do let rv ← holding [a] (markedBehindIn op r (eval r env)); standAt pos; let c ← operate [a, rv] (compareOp op a rv); holding [c] (truthy c)) Q E s₁
  rw [markedBehindIn_of_false hm]
  refine wpC_bind (wpC_holding (wpC_mono h₁ (fun b s₂ h₂ => ?_) fun _ _ x => x))
  exact wpC_bind (wpC_standAt (wpC_any (wpAny_bind (wpAny_operate' (wpAny_mono h₂ (fun c s₃ h₃ => wpAny_holding h₃) fun _ _ x => x)))))
/-- the call of a plain function that the walk has come to -/
noncomputable def CallC (M : Model) (A : Around) (f : Value) (ar : Args) (Q : Value → Shared → Prop) (E : Value → Shared → Prop) (s : Shared) : Prop :=
  ∃ a o fd, f = .ref a ∧ s.heap.get? a = some o ∧ o.data = .func fd ∧ ar.kw = [] ∧ wpC M A (call (.ref a) ar.pos []) Q E s
theorem Call_C {x : Str} {np pos : Pos} {args : List PySem.Expr} {Q : Value → Shared → Prop}
    (h : wpAny M A (eval (.Name x np) env) (fun f s₁ => wpAny M A (evalArgs f true (backTo pos (starEach args env)) (backToKw pos (keywordEach [] env))) (fun ar s₂ => CallC M A f ar Q E s₂) E s₁) E s) :
    wpC M A (eval (.Call (.Name x np) args [] pos) env) Q E s := by
  show wpC M A (do callWith pos (← eval (.Name x np) env) [] (backTo pos (starEach args env)) (backToKw pos (keywordEach [] env))) Q E s
  refine wpC_bind_any (wpAny_mono h (fun f s₁ h₁ => ?_) fun _ _ x => x)
  unfold callWith
  refine wpC_bind (wpC_holding (wpC_mono (wpC_any h₁) (fun ar s₂ h₂ => wpC_bind (wpC_standAt ?_)) fun _ _ x => x))
  obtain ⟨a, o, fd, rfl, ho, hd, hk, hc⟩ := h₂
  rw [hk]
  have tail : ∀ {t : Sem Value}, wpC M A t Q E s₂ → wpC M A (t >>= fun r => holding [r] point >>= fun _ => pure r) Q E s₂ :=
    fun ht => wpC_bind (wpC_mono ht (fun r s₂ hr => wpC_bind (wpC_holding (wpC_point (wpC_pure hr)))) fun _ _ x => x)
  have hkp : ∀ {R : Keeper → Shared → Prop}, R .frame s₂ → wpC M A (keeperOf (.ref a)) R E s₂ := fun hR => wpC_any (by
    unfold keeperOf
    refine wpAny_bind (wpAny_load ho ?_)
    rw [hd]
    exact wpAny_pure hR)
  refine wpC_bind (hkp ?_)
  dsimp only
  split
  · rename_i hh _ _
    exact tail (by unfold callMarked; exact wpC_keep hc)
  · split
    · exact tail hc
    · exact tail (by unfold callMarked; exact wpC_keep hc)
  · rename_i q _
    cases q
  · rename_i q _
    cases q
  · rename_i q q2 _ _
    exact (Bool.eq_false_or_eq_true _).elim (fun hb => (q rfl hb).elim) fun hb => (q2 rfl hb).elim
/-- the call of a built-in type that the walk has come to -/
noncomputable def CallTC (M : Model) (A : Around) (f : Value) (ar : Args) (Q : Value → Shared → Prop) (E : Value → Shared → Prop) (s : Shared) : Prop :=
  ∃ T, f = .type T ∧ ar.kw = [] ∧ wpC M A (call (.type T) ar.pos []) Q E s
theorem CallT_C {x : Str} {np pos : Pos} {args : List PySem.Expr} {Q : Value → Shared → Prop}
    (h : wpAny M A (eval (.Name x np) env) (fun f s₁ => wpAny M A (evalArgs f true (backTo pos (starEach args env)) (backToKw pos (keywordEach [] env))) (fun ar s₂ => CallTC M A f ar Q E s₂) E s₁) E s)
    (hplain : ((backTo pos (starEach args env)).any (·.1) || (backToKw pos (keywordEach [] env)).any (·.1.isNone)) = false := by rfl) :
    wpC M A (eval (.Call (.Name x np) args [] pos) env) Q E s := by
  show wpC M A (do callWith pos (← eval (.Name x np) env) [] (backTo pos (starEach args env)) (backToKw pos (keywordEach [] env))) Q E s
  refine wpC_bind_any (wpAny_mono h (fun f s₁ h₁ => ?_) fun _ _ x => x)
  unfold callWith
  refine wpC_bind (wpC_holding (wpC_mono (wpC_any h₁) (fun ar s₂ h₂ => wpC_bind (wpC_standAt ?_)) fun _ _ x => x))
  obtain ⟨T, rfl, hk, hc⟩ := h₂
  rw [hk]
  refine wpC_bind (m := keeperOf (.type T)) (wpC_pure ?_)
  rw [hplain]
  exact wpC_bind (wpC_mono hc (fun r s₂ hr => wpC_bind (wpC_holding (wpC_point (wpC_pure hr)))) fun _ _ x => x)
end

section
variable {prog : Program} {w : World} {A : Around} {s : Shared} {R : Result → Shared → Prop}
theorem codeC_func {body : List Stmt} {env : Env} (h : wpC (model prog w) (A.deeper env) (execs body env) (fun f s' => R (.ok (.ret (match f with | .ret v => v | _ => .none))) s') NoE s) : codeC (model prog w) A (.func body env) R s := by
  refine codeC_of_tree ?_
  show wpC _ (A.deeper env) (do point; match ← (execs body env).onRaise (leaving env) with | .ret v => ret v | _ => ret .none) _ _ s
  refine wpC_bind (wpC_point (wpC_bind (wpC_onRaise (wpC_mono h (fun f s' h' => ?_) fun _ _ h' => h'.elim))))
  cases f <;> exact wpC_pure h'
theorem codeC_call_def {a : Addr} {o : Obj} {fd : FuncData} {body : List Stmt} {args : Args} {binds : List (Str × Value)}
    (hroom : A.depth < recursionLimit) (ho : s.heap.get? a = some o) (hd' : o.data = .func fd) (hlim : s.heap.NoLimit) (hcd : s.heap.CodeRec fd.code fd.qualname)
    (hbody : fd.body = .stmts body) (hbind : BindsTo s fd args binds)
    (hcell : ∀ x ∈ fd.scope.names, x.2 ≠ .cell) (hloc : ∀ x ∈ binds, fd.scope.names.lookup x.1 = some .local)
    (h : ∀ h₀, h₀.Ns s.heap.objs.size (fun x => binds.reverse.lookup x) → (∀ b o, s.heap.get? b = some o → h₀.get? b = some o) →
      wpC (model prog w) (A.deeper (callEnv fd s.heap.objs.size a)) (execs body (callEnv fd s.heap.objs.size a)) (fun f s' => R (.ok (.ret (match f with | .ret v => v | _ => .none))) s') NoE
        { s with heap := h₀, toks := s.toks + binds.length })
    (hco : fd.scope.isCoroutine = false := by rfl) (hgen : fd.scope.isGenerator = false := by rfl) (hk : fd.scope.kind = .function := by rfl) :
    codeC (model prog w) A (.call (.ref a) args) R s := by
  refine codeC_of_tree ?_
  show wpC _ A.in1 (callAny (.ref a) args) _ _ s
  simp only [callAny]
  refine wpC_bind_any (wpAny_load ho ?_)
  obtain ⟨c, oc, vs, tq, hc, hoc, hdc, hq⟩ := hcd
  simp only [hd', callFunction, hco, hgen, hbody, hc]
  refine wpC_bind_any (m := field (.ref c) 1) (wpAny_field hoc hdc hq (wpC_bind (wpC_pure ?_)))
  refine wpC_bind_any (hbind _ _ _ _ ?_)
  rw [← hc]
  refine wpC_bind_any (wpAny_newFunctionEnv hcell hloc (fun h₀ hns₀ hsb₀ => ?_) hk)
  refine wpC_bind_any (wpAny_enterFrame (hlim.fresh _ hsb₀) hroom ?_)
  exact wpC_pure ⟨rfl, rfl, codeC_func (h h₀ hns₀ fun b o e => hsb₀.extBut b o (Nat.ne_of_lt (Heap.lt_size e)) (Heap.get?_push_of_some _ e))⟩
theorem codeC_block {stmts : List Stmt} {env : Env} (h : wpC (model prog w) A (execs stmts env) (fun f s' => R (.ok f) s') NoE s) : codeC (model prog w) A (.block stmts env) R s := by
  refine codeC_of_tree ?_
  show wpC _ _ (do return Fin.done (← (execs stmts env).onRaise (fun x => do noteFrame x env; theTreesLotGoes x))) _ _ s
  exact wpC_bind (wpC_onRaise (wpC_mono h (fun f s' h' => wpC_pure h') fun _ _ h' => h'.elim))
theorem forLoop_C {target : PySem.Expr} {it : Value} {body orelse : List Stmt} {env : Env}
    (h : wpAny (model prog w) A (pyNext it) (fun r s₁ => match r with
      | none => wpC (model prog w) A (execs orelse env) (fun f s₃ => R (.ok f) s₃) NoE s₁
      | some v => wpAny (model prog w) A (letOwnedTupleGo target it v) (fun _ s₁ => wpAny (model prog w) A (assign target env v) (fun _ s₂ => wpC (model prog w) A (execs body env) (fun f s₃ => match f with
          | .next | .cont => codeC (model prog w) A (.forLoop target it body orelse env) R s₃
          | .brk => R (.ok .next) s₃
          | .ret v => R (.ok (.ret v)) s₃) NoE s₂) NoE s₁) NoE s₁) NoE s) : codeC (model prog w) A (.forLoop target it body orelse env) R s := by
  refine codeC_of_tree ?_
  show wpC _ _ ((forTurn target it body orelse env).onRaise (fun x => do noteFrame x env; theTreesLotGoes x)) _ _ s
  refine wpC_onRaise (wpC_noE ?_)
  simp only [forTurn]
  refine wpC_bind (wpC_standAt (wpC_bind (wpC_onRaise (wpC_noE (wpC_mono (wpC_any h) (fun r s₁ h₁ => ?_) fun _ _ h' => h')))))
  cases r with
  | none => exact wpC_pure ⟨rfl, rfl, codeC_block h₁⟩
  | some v =>
    refine wpC_bind (wpC_mono (wpC_any h₁) (fun _ s₁ h₁ => ?_) fun _ _ h' => h')
    refine wpC_bind (wpC_mono (wpC_any h₁) (fun _ s₂ h₂ => wpC_bind (wpC_mono h₂ (fun f s₃ h₃ => ?_) fun _ _ h' => h')) fun _ _ h' => h')
    cases f with
    | next => exact wpC_pure ⟨rfl, rfl, h₃⟩
    | cont => exact wpC_pure ⟨rfl, rfl, h₃⟩
    | brk => exact wpC_pure h₃
    | ret v => exact wpC_pure h₃
theorem For_C {target iter : PySem.Expr} {body orelse : List Stmt} {pos : Pos} {env : Env} {Q : Flow → Shared → Prop}
    (h : wpAny (model prog w) A (eval iter env) (fun x s₁ => wpAny (model prog w) A (pyIter x) (fun it s₂ =>
      codeC (model prog w) A (.forLoop target it body orelse env) (fun r s' => match r with | .ok f => Q f s' | .error _ => False) s₂) NoE s₁) NoE s)
    (hs : ∀ x, foldedSetIterable iter env x = pure x := by intro _; rfl) : wpC (model prog w) A (exec (.For target iter body orelse pos) env) Q NoE s := by
  rw [exec_For]
  refine wpC_bind (wpC_standAt (wpC_bind (wpC_mono (wpC_any h) (fun x s₁ h₁ => ?_) fun _ _ h' => h')))
  rw [hs x]
  refine wpC_bind (wpC_pure (wpC_bind (wpC_standAt (wpC_bind (wpC_holding (wpC_mono (wpC_any h₁) (fun it s₂ h₂ => ?_) fun _ _ h' => h'))))))
  unfold runOwn
  refine wpC_onRaise (wpC_run rfl (codeC_mono h₂ fun r s' hr => ?_))
  cases r with
  | ok f => exact hr
  | error e => exact hr.elim
end
end Mine
end

section
open PySem PySem.W PySem.Spec PySem.Calls PyProof.Rows
set_option maxRecDepth 100000
set_option maxHeartbeats 2000000
namespace Mine
noncomputable def funcIn (K : Frag) (a : Addr) : Bool := match K.lookup a with
  | some ⟨_, _, .func _, _⟩ => true
  | _ => false
theorem CallC.of {M : Model} {A : Around} {a : Addr} {ar : Args} {Q : Value → Shared → Prop} {E : Value → Shared → Prop} {s : Shared} {K : Frag} (X : K.In s.heap) (hf : funcIn K a = true) (hk : ar.kw = []) (h : wpC M A (call (.ref a) ar.pos []) Q E s) : CallC M A (.ref a) ar Q E s := by
  unfold funcIn at hf
  split at hf
  · rename_i oc od fd sl ho
    exact ⟨a, _, fd, rfl, X _ _ ho, rfl, hk, h⟩
  · cases hf
section
variable {w : World} {mean : ExcName → Option Value} {mg mb : Str → Option Value} {A : Around} {base : Heap} {l : List Env} {s : Shared} {D U : Nat}
theorem Gr.codeC (G : Gr w mean mg mb D U A base l s) {M : Model} {c : Code} {R : Result → Shared → Prop} (h : codeC M (zA D U l A.guards) c R s) : codeC M A c R s :=
  fun Γ p hc hΓ => h Γ p hc (below_use (A' := zA D U l A.guards) G.hand G.depth G.units G.below.stack rfl rfl hΓ)
theorem enterC {R : Result → Shared → Prop} {name qual : Str} {params : Arguments} {body : List Stmt} {scope : Scope} {dV kV doc pm cdv ct oc : Value} {an od : Option Addr} {osl : Array (Option Value)} {f : Addr} {args : Args} {binds : List (Str × Value)}
    (G : Gr w mean mg mb D U A base l s) (hD : D < recursionLimit)
    (ho : (Mine.hd.heap_1 w.params).lookup f = some ⟨oc, od, .func (fnOf name qual params body scope dV kV doc pm an cdv ct), osl⟩) (hcd : codeIn (Mine.hd.heap_1 w.params) cdv qual = true)
    (hbind : BindsTo s (fnOf name qual params body scope dV kV doc pm an cdv ct) args binds) (hloc : ∀ y ∈ binds, scope.names.lookup y.1 = some .local)
    (h : ∀ L' h₁, Fr s.heap L' h₁ (fun y => binds.reverse.lookup y) → News s.heap L' h₁ [] → Below (zA D U l A.guards) base l s.heap → (Mine.hd.heap_1 w.params).In s.heap → Top topProg LL mean mg mb s.heap →
      wpC (model PySem.Challenge.rw_no0060_01.row.prog w) ((zA D U l A.guards).deeper (envOf qual scope L' f cdv)) (execs body (envOf qual scope L' f cdv)) (fun fl s' => R (.ok (.ret (match fl with | .ret v => v | _ => .none))) s') NoE
        { s with heap := h₁, toks := s.toks + binds.length })
    (hco : scope.isCoroutine = false) (hgen : scope.isGenerator = false) (hk : scope.kind = .function)
    (hcell : ∀ x ∈ scope.names, x.2 ≠ .cell) : Mine.codeC (model PySem.Challenge.rw_no0060_01.row.prog w) A (.call (.ref f) args) R s :=
  G.codeC (codeC_call_def (fd := fnOf name qual params body scope dV kV doc pm an cdv ct) hD (G.Ks _ _ ho) rfl G.tops.nolimit (codeRec_of G.Ks hcd) rfl hbind hcell hloc
    (fun h₁ hns hk => h _ h₁ ⟨hns, hk, Nat.le_refl _⟩ News.nil G.z.below G.Ks G.tops) hco hgen hk)
end
end Mine
end

section
open PySem PySem.W PyProof.Rows PySem.W.X
set_option maxRecDepth 100000
set_option maxHeartbeats 8000000
namespace Mine
theorem sizes_at (P : Params) : (Mine.hd.heap_1 P).lookup 55 = some { cls := .type "tuple", data := .seq #[.int 1 255, .int 2 256, .int 4 257, .int 8 258] } := by kernel_rfl
section
variable {prog : Program} {w : World} {A : Around} {E : Value → Shared → Prop} {s : Shared}
theorem notIn_sizes {size : Int} {t : Tok} {Q : Value → Shared → Prop} (X : (Mine.hd.heap_1 w.params).In s.heap) (h : Q (.bool (!(size == 1 || size == 2 || size == 4 || size == 8))) s) : wpAny (model prog w) A (compareOp .NotIn (.int size t) (.ref 55)) Q E s := by
  have e : (!(size == 1 || size == 2 || size == 4 || size == 8)) = (!(#[Value.int 1 255, .int 2 256, .int 4 257, .int 8 258].any fun y => match y with | .int a _ => a == size | _ => false)) := by
    simp [Bool.beq_comm, Bool.or_assoc, eq_comm]
  rw [e] at h
  refine SeqAt.notIn_tupleAt _ ⟨_, X _ _ (sizes_at _), rfl, _, rfl⟩ (fun y hy => ?_) h
  simp only [List.mem_toArray, List.mem_cons, List.not_mem_nil, or_false] at hy
  rcases hy with rfl | rfl | rfl | rfl <;> exact SeqAt.EqAt.int_int _ _ _ _
theorem index_method {pl : Sem Bool} {Q : Value × List Value → Shared → Prop} (X : (Mine.hd.heap_1 w.params).In s.heap) (h : Q (.builtin "tuple.index", [.ref 55]) s) : wpAny (model prog w) A (getMethod (.ref 55) (Str.ofString "index") pl) Q E s :=
  getMethod_builtin (T := "tuple") ⟨_, X _ _ (sizes_at _), rfl⟩ PySem.F.plainAttrs_tuple PySem.F.slot_tuple_index PySem.F.type_tuple_index (fun a e => by cases e; exact ⟨_, X _ _ (sizes_at _), rfl⟩) h
theorem notIn_sizes' {size : Int} {t : Tok} {Q : Value → Shared → Prop} (X : (Mine.hd.heap_1 w.params).In s.heap) (hs : size = 1 ∨ size = 2 ∨ size = 4 ∨ size = 8) (h : Q (.bool false) s) : wpAny (model prog w) A (compareOp .NotIn (.int size t) (.ref 55)) Q E s :=
  notIn_sizes X (by rcases hs with rfl | rfl | rfl | rfl <;> exact h)
end
theorem index_c (w : World) {mean : ExcName → Option Value} {mg mb : Str → Option Value} {A : Around} {base : Heap} {l : List Env} {s : Shared} {size : Int} {t : Tok} {Q : Value → Shared → Prop} {E : Value → Shared → Prop} (G : Gr w mean mg mb 360 200 A base l s)
   (hs : size = 1 ∨ size = 2 ∨ size = 4 ∨ size = 8) (hQ : ∀ t, Q (.int (idxOf size) t) { s with toks := s.toks + 1 }) :
   wpAny (model PySem.Challenge.rw_no0060_01.row.prog w) A (call (.builtin "tuple.index") [.ref 55, .int size t]) Q E s :=
  G.x (by decide) (by decide) (index_x w l A.guards s G.K2 size t hs Q E hQ)
end Mine
end

section
open PySem PySem.W PySem.Spec PySem.Calls PyProof.Rows
set_option maxRecDepth 100000
set_option maxHeartbeats 2000000
namespace Mine
noncomputable abbrev baO (b : Array UInt8) : Obj := { cls := .type "bytearray", data := .bytearray b 0 }
namespace BA
theorem lookup_set : typeLookup (.type "bytearray") "__setitem__" = pure (some (.builtin "bytearray.__setitem__")) := by rw [typeLookup_type, builtinLookup_eq_fast]; kernel_rfl
theorem slot_set : Slot "bytearray" "__setitem__" "bytearray.__setitem__" := Slot.of (owner := "bytearray") (n := "__setitem__") lookup_set (by decide +kernel) (by decide +kernel) (by decide +kernel) (.inl (by decide +kernel)) (by rw [isSubtype_type]; kernel_rfl)
theorem entry_set : entryFor table "bytearray.__setitem__" = some Builtin.«bytearray.__setitem__» := entryFor_of_tree (by kernel_rfl)
theorem args_set (a b c : Value) : argsOk "bytearray.__setitem__" ⟨[a, b, c], []⟩ := by unfold argsOk; kernel_rfl
end BA
section
variable {prog : Program} {w : World} {A : Around} {E : Value → Shared → Prop} {s : Shared}
theorem ba_setAt {l : Addr} {b : Array UInt8} {k v : Int} {t u : Tok} {Q : Unit → Shared → Prop} (ho : s.heap.get? l = some (baO b)) (h0 : 0 ≤ k) (hn : k < b.size) (hz : b.size ≤ 8) (v0 : 0 ≤ v) (v1 : v < 256)
    (hQ : Q () { s with heap := s.heap.update l (Obj.mapBytearray (·.setIfInBounds k.toNat v.toNat.toUInt8)) }) : wpAny (model prog w) A (setItem (.ref l) (.int k t) (.int v u)) Q E s := by
  have hT : s.TypeIs (.ref l) "bytearray" := ⟨_, ho, rfl⟩
  unfold setItem
  try with_reducible refine wpAny_holding ?_
  first | refine wpAny_bind (wpAny_pure ?_) | skip
  refine wpAny_bind (wpAny_sequenceKey hT (by decide) ?_)
  refine wpAny_bind (wpAny_callSpecial?_slot (name := Str.ofString "__setitem__") hT BA.slot_set (wpAny_call_entry BA.slot_set hT BA.entry_set ?_ (BA.args_set _ _ _)))
  show wpAny _ _ (Builtin.Bytes.subscript? (.int k t) >>= _) _ _ s
  have e1 : Builtin.Bytes.fitsIndex k = true := by
    unfold Builtin.Bytes.fitsIndex
    simp only [Bool.and_eq_true, decide_eq_true_eq]
    omega
  refine wpAny_bind ?_
  unfold Builtin.Bytes.subscript?
  refine wpAny_bind (wpAny_bind (m := typeOf (.int k t)) (wpAny_pure (wpAny_of_eq BA.lookup_idx ?_)))
  simp only [Option.isNone_some, Bool.false_eq_true, if_false]
  rw [show asIndex (.int k t) = pure k from rfl]
  refine wpAny_bind (wpAny_pure ?_)
  simp only [e1, Bool.not_true, Bool.false_eq_true, if_false]
  refine wpAny_pure ?_
  show wpAny _ _ (Builtin.Bytes.byteValue (.int v u) >>= _) _ _ s
  refine wpAny_bind ?_
  unfold Builtin.Bytes.byteValue
  rw [show asIndex (.int v u) = pure v from rfl]
  refine wpAny_bind (wpAny_pure ?_)
  rw [if_neg (by simp only [Bool.or_eq_true, decide_eq_true_eq]; omega)]
  refine wpAny_pure ?_
  show wpAny _ _ (Builtin.Bytes.payload (.ref l) >>= _) _ _ s
  refine wpAny_bind ?_
  unfold Builtin.Bytes.payload Builtin.Bytes.payload?
  refine wpAny_bind (wpAny_bind (wpAny_load ho (wpAny_pure (wpAny_pure ?_))))
  have e2 : seqIndex? k b.size = some k.toNat := by
    unfold seqIndex?
    simp only [if_neg (show ¬ k < 0 by omega)]
    rw [if_pos (by simp only [Bool.and_eq_true, decide_eq_true_eq]; omega)]
  rw [e2]
  refine wpAny_bind (wpAny_write ho rfl ?_ (wpAny_pure ⟨_, rfl, wpAny_pure hQ⟩))
  rw [Array.size_setIfInBounds]
  exact Nat.le_trans hz (by decide)
end
end Mine
end

section
open PySem PySem.W PySem.Spec PySem.Calls PyProof.Rows
set_option maxRecDepth 100000
set_option maxHeartbeats 2000000
namespace Mine
/-- the lowest i digits of n to the base 256, highest first -/
noncomputable def dig (n : Int) : Nat → List Int
  | 0 => []
  | i + 1 => (n / 256 ^ i) % 256 :: dig n i
theorem dig_length (n : Int) : ∀ i, (dig n i).length = i
  | 0 => rfl
  | i + 1 => congrArg (· + 1) (dig_length n i)
theorem dig_in (n : Int) : ∀ i, ∀ x ∈ dig n i, 0 ≤ x ∧ x < 256
  | i + 1, x, hx => by
    rcases List.mem_cons.mp hx with rfl | hx
    · exact ⟨Int.emod_nonneg _ (by decide), Int.emod_lt_of_pos _ (by decide)⟩
    · exact dig_in n i x hx
theorem bInts_set {b : Array UInt8} {j : Nat} {v : Int} (v0 : 0 ≤ v) (v1 : v < 256) : KBw.bInts (b.setIfInBounds j v.toNat.toUInt8) = (KBw.bInts b).set j v := by
  unfold KBw.bInts
  rw [Array.toList_setIfInBounds, List.map_set]
  congr 1
  obtain ⟨k, rfl⟩ := Int.eq_ofNat_of_zero_le v0
  show ((k.toUInt8.toNat : Nat) : Int) = k
  rw [show k.toUInt8.toNat = k % 256 from rfl, Nat.mod_eq_of_lt (by omega)]
theorem set_replicate {l : List Int} {i k : Nat} {v : Int} (hi : i < k) : (List.replicate (k - i) 0 ++ l).set (k - 1 - i) v = List.replicate (k - (i + 1)) 0 ++ v :: l := by
  have e : k - i = (k - (i + 1)) + 1 := by omega
  have e2 : k - 1 - i = k - (i + 1) := by omega
  rw [e, e2, List.replicate_succ', List.append_assoc]
  simp [List.set_append]
structure DInv (n₀ : Int) (size i : Nat) (arr : Array UInt8) (k : Int) : Prop where
  dInts : KBw.bInts arr = List.replicate (size - i) 0 ++ dig n₀ i
  dLeft : k = n₀ / 256 ^ i
theorem DInv.size_eq {n₀ : Int} {size i : Nat} {arr : Array UInt8} {k : Int} (x : DInv n₀ size i arr k) (hi : i ≤ size) : arr.size = size := by
  have := congrArg List.length x.dInts
  rw [KBw.ints_length, List.length_append, List.length_replicate, dig_length] at this
  omega
theorem DInv.step {n₀ : Int} {size i : Nat} {arr : Array UInt8} {k : Int} (x : DInv n₀ size i arr k) (h0 : 0 ≤ n₀) (hi : i < size) :
    DInv n₀ size (i + 1) (arr.setIfInBounds (size - 1 - i) (k % 256).toNat.toUInt8) (k / 256) := by
  refine ⟨?_, ?_⟩
  · rw [bInts_set (Int.emod_nonneg _ (by decide)) (Int.emod_lt_of_pos _ (by decide)), x.dInts, set_replicate hi, x.dLeft]
    rfl
  · rw [x.dLeft, Int.pow_succ, Int.ediv_ediv_of_nonneg (Int.le_of_lt (Int.pow_pos (by decide)))]
theorem DInv.start (n₀ : Int) (size : Nat) : DInv n₀ size 0 (Array.replicate size 0) n₀ := ⟨by simp [KBw.bInts, dig], by simp⟩
section
variable {prog : Program} {w : World} {A : Around} {E : Value → Shared → Prop} {s : Shared} {h₀ : Heap} {env : Env} {m₀ : Str → Option Value}
theorem my_setba {L l : Addr} {m : Str → Option Value} {own : List (Addr × Obj)} {b : Array UInt8} {k v : Int} {t u : Tok} {Q : Unit → Shared → Prop} (F : Fr h₀ L s.heap m) (N : News h₀ L s.heap ((l, baO b) :: own)) (ho : OwnOff own [l]) (h0 : 0 ≤ k) (hn : k < b.size) (hz : b.size ≤ 8) (v0 : 0 ≤ v) (v1 : v < 256)
    (h : ∀ h', Fr h₀ L h' m → News h₀ L h' ((l, baO (b.setIfInBounds k.toNat v.toNat.toUInt8)) :: own) → Q () { s with heap := h' }) : wpAny (model prog w) A (setItem (.ref l) (.int k t) (.int v u)) Q E s := by
  have z := N _ (.head _)
  refine ba_setAt z.1 h0 hn hz v0 v1 (h _ (F.change (Heap.SameBut.update ..) z.2.1 z.2.2) fun p hp => ?_)
  rcases List.mem_cons.mp hp with rfl | hp
  · exact ⟨mapBytearray_at z.1, z.2⟩
  · exact ⟨(Heap.get?_update_other _ _ (Ne.symm (ho p hp l (.head _)))).trans (N p (.tail _ hp)).1, (N p (.tail _ hp)).2⟩
noncomputable def TurnOK (h₀ : Heap) (L S : Addr) (m₀ : Str → Option Value) (own : List (Addr × Obj)) (s : Shared) (arr' : Array UInt8) (k' : Int) (f : Flow) (s' : Shared) : Prop :=
  f = .next ∧ ∃ h' tk t' m', s' = { s with heap := h', toks := tk } ∧ Fr h₀ L h' m' ∧ News h₀ L h' ((S, baO arr') :: own) ∧ m' (Str.ofString "n") = some (.int k' t') ∧ ∀ y, y ≠ Str.ofString "n" → y ≠ Str.ofString "place" → m' y = m₀ y
theorem down_loop {S r : Addr} {size n₀ : Int} {t₁ u₁ v₁ tn : Tok} {body : List Stmt} {Q : Flow → Shared → Prop} (hh : A.handled = none) (hr : IsRange s.heap r (size - 1) (-1) (-1) t₁ u₁ v₁) (hs1 : 1 ≤ size) (hs2 : size ≤ 8) (h0 : 0 ≤ n₀)
    (F : Fr h₀ env.locals s.heap m₀) (N : News h₀ env.locals s.heap [(S, baO (Array.replicate size.toNat 0))]) (hm : m₀ (Str.ofString "n") = some (.int n₀ tn))
    (turn : ∀ (i : Nat) (arr : Array UInt8) (k : Int) (tk' t : Tok) h tk own, i < size.toNat → arr.size = size.toNat → 0 ≤ k → OwnOff own [S] →
      Fr h₀ env.locals h (fun y => if y = Str.ofString "place" then some (.int (size - 1 - i) t) else if y = Str.ofString "n" then some (.int k tk') else m₀ y) → News h₀ env.locals h ((S, baO arr) :: own) →
      wpAny (model prog w) A (execs body env) (TurnOK h₀ env.locals S m₀ own s (arr.setIfInBounds (size - 1 - i).toNat (k.fmod 256).toNat.toUInt8) (k.fdiv 256)) E { s with heap := h, toks := tk })
    (done : ∀ (arr : Array UInt8) (m : Str → Option Value) h tk, KBw.bInts arr = dig n₀ size.toNat → Fr h₀ env.locals h m → News h₀ env.locals h [(S, baO arr)] → (∀ y, y ≠ Str.ofString "n" → y ≠ Str.ofString "place" → m y = m₀ y) → Q .next { s with heap := h, toks := tk }) :
    wpAny (model prog w) A (pyIter (.ref r)) (fun it s₂ => LoopAtV prog w A h₀ env (Str.ofString "place") body Q E it s₂) E s := by
  have hn : Builtin.Range.rangeSize (size - 1) (-1) (-1) = ((size.toNat : Nat) : Int) := by rw [rangeSize_downNat]; congr 1; omega
  refine wpAny_pyIter_range hr (small_down (by omega) (by omega) (by omega) (by omega)) ?_
  have W : Walks prog w A s.heap.objs.size [s.heap.objs.size] [s.heap.objs.size] size.toNat (fun i v => i < size.toNat ∧ ∃ t, v = .int (size - 1 + i * (-1)) t)
      (fun i h => IsRangeIter h s.heap.objs.size (size - 1 + (i : Nat) * (-1)) ((size.toNat : Int) - (i : Nat)) (-1)) := (Walks.range hh _ (size - 1) (-1) size.toNat).bound
  refine loop_invN (fun i m nx => ∃ arr k tk', nx = [(S, baO arr)] ∧ DInv n₀ size.toNat i arr k ∧ m (Str.ofString "n") = some (.int k tk') ∧ ∀ y, y ≠ Str.ofString "n" → y ≠ Str.ofString "place" → m y = m₀ y) W ?_ ?_ ?_ ?_
    (by show IsRangeIter _ _ _ _ _; rw [hn]; simpa using Heap.get?_push_size _ rfl) (F.push _) (fun p hp => ⟨Heap.get?_push_of_some _ (N p hp).1, (N p hp).2⟩) ⟨_, n₀, tn, rfl, DInv.start _ _, hm, fun _ _ _ => rfl⟩ ?_ ?_
  · intro hm
    exact absurd F.ns.lt ((List.mem_singleton.mp hm) ▸ Nat.lt_irrefl _)
  · intro b hb
    rw [List.mem_singleton.mp hb]
    exact next_is_new F
  · intro p hp hI
    exact absurd (Heap.lt_size (N p hp).1) ((List.mem_singleton.mp hI) ▸ Nat.lt_irrefl _)
  · intro p hp hI
    exact absurd (Heap.lt_size (N p hp).1) ((List.mem_singleton.mp hI) ▸ Nat.lt_irrefl _)
  · rintro i v m₁ nx h tk own hi ⟨_, t, rfl⟩ _ hoff ⟨arr, k, tk', rfl, I, hmn, hmo⟩ F₁ N₁
    have e1 : size - 1 + (i : Int) * (-1) = size - 1 - (i : Int) := by omega
    rw [e1] at F₁
    have hk0 : 0 ≤ k := by rw [I.dLeft]; exact Int.ediv_nonneg h0 (Int.le_of_lt (Int.pow_pos (by decide)))
    have em : (fun y => if y = Str.ofString "place" then some (.int (size - 1 - i) t) else m₁ y) = (fun y => if y = Str.ofString "place" then some (.int (size - 1 - i) t) else if y = Str.ofString "n" then some (.int k tk') else m₀ y) := by
      funext y
      by_cases h1 : y = Str.ofString "place"
      · rw [if_pos h1, if_pos h1]
      · rw [if_neg h1, if_neg h1]
        by_cases h2 : y = Str.ofString "n"
        · rw [if_pos h2, h2, hmn]
        · rw [if_neg h2, hmo y h2 h1]
    rw [em] at F₁
    refine wpAny_mono (turn i arr k tk' t h tk own hi (I.size_eq (Nat.le_of_lt hi)) hk0 hoff F₁ N₁) (fun f s' h' => ?_) fun _ _ e => e
    obtain ⟨rfl, h', tk₂, t', m', rfl, F', N', hn', ho'⟩ := h'
    have ej : (size - 1 - (i : Int)).toNat = size.toNat - 1 - i := by omega
    have e2 : k.fmod 256 = k % 256 := Int.fmod_eq_emod_of_nonneg _ (by decide)
    have e3 : k.fdiv 256 = k / 256 := Int.fdiv_eq_ediv_of_nonneg _ (by decide)
    rw [ej, e2] at N'
    rw [e3] at hn'
    exact ⟨h', tk₂, m', _, [(S, baO (arr.setIfInBounds (size.toNat - 1 - i) (k % 256).toNat.toUInt8))], rfl, F', N', fun p hp => by rw [List.mem_singleton.mp hp]; exact .head _, fun p hp => .tail _ hp, rfl, _, _, t', rfl, I.step h0 hi, hn', ho'⟩
  · rintro m₁ nx h tk ⟨arr, k, tk', rfl, I, hmn, hmo⟩ F₁ N₁
    exact done arr m₁ h tk (by rw [I.dInts]; simp) F₁ N₁ hmo
end
end Mine
end

section
open PySem PySem.W PySem.Spec PySem.Calls PyProof.Rows
set_option maxRecDepth 100000
set_option maxHeartbeats 8000000
namespace Mine
theorem pw_C (w : World) {mean : ExcName → Option Value} {mg mb : Str → Option Value} {A : Around} {base : Heap} {l : List Env} {s : Shared} {R : Result → Shared → Prop} {n size : Int} {t u : Tok} (G : Gr w mean mg mb 360 200 A base l s)
  (hs1 : 1 ≤ size) (hs2 : size ≤ 8) (hn0 : 0 ≤ n) (hn1 : n < 256 ^ size.toNat)
  (hR : ∀ (b : Array UInt8) (tb : Tok) h' tk, KBw.bInts b = dig n size.toNat → (∀ x o, s.heap.get? x = some o → h'.get? x = some o) → s.heap.objs.size ≤ h'.objs.size → R (.ok (.ret (.bytes b tb))) { s with heap := h', toks := tk }) :
  codeC (model PySem.Challenge.rw_no0060_01.row.prog w) A (.call (.ref 62) ⟨[.int n t, .int size u], []⟩) R s := by
  have hfill : (Mine.hd.heap_1 w.params).In s.heap → PySem.Challenge.rw_no0060_01 = PySem.Challenge.rw_no0060_01 := by k_fill; intro _; rfl
  clear hfill
  refine' enterC G (by decide) ?ho ?hcd ?hbind ?hloc ?_ ?c2 ?c3 ?c4 ?c5; (case ho => k_is); (case hcd => k_is); (case hbind => exact BindsTo.of_eq rfl); (case c5 => decide); (case hloc => exact locs rfl); (case c2 => exact rfl); (case c3 => exact rfl); (case c4 => exact rfl); k_whole; intro L' h₁ F N B X T; (try dsimp only); (try k_lift B); (try k_fold)
  have hz : n.fdiv (2 ^ (8 * size).toNat) = 0 := by
    rw [Int.fdiv_eq_ediv_of_nonneg _ (Int.le_of_lt (Int.pow_pos (by decide)))]
    refine Int.ediv_eq_zero_of_lt hn0 ?_
    have : (2 : Int) ^ (8 * size).toNat = 256 ^ size.toNat := by
      rw [show (8 * size).toNat = 8 * size.toNat by omega, Int.pow_mul]
      rfl
    rw [this]
    exact hn1
  refine execs_C (If_C (wpC_any ?_))
  (repeat' (first | (k_unfold; (try dsimp only)) | (k_end; wrow_close) | ((with_reducible show wpAny _ _ (pyIter (Value.ref _)) (fun it s₂ => LoopAtV _ _ _ _ _ _ _ _ _ it s₂) _ _); first | (with_reducible ((rename IsRange _ _ _ _ _ _ _ _ => hr); (rename Fr _ _ _ _ => F3); (rename News _ _ _ _ => N3); (refine' down_loop ?hh hr hs1 hs2 hn0 F3 N3 ?hm ?_ ?_); (case hh => rfl); (case hm => rfl))) | ((rename IsRange _ _ _ _ _ _ _ _ => hr); (rename Fr _ _ _ _ => F3); (rename News _ _ _ _ => N3); (refine' down_loop ?hh hr hs1 hs2 hn0 F3 N3 ?hm ?_ ?_); (case hh => rfl); (case hm => rfl))) | ((with_reducible show wpAny _ _ (setItem (Value.ref _) (Value.int _ _) _) _ _ _); first | (with_reducible (refine' my_setba ?k1 ?k2 ?k3 ?k4 ?k5 ?k6 ?k7 ?k8 ?_; (case k1 => k_asm); (case k2 => k_asm); (case k3 => assumption); (case k4 => omega); (case k5 => omega); (case k6 => omega); (case k7 => exact Int.fmod_nonneg_of_pos _ (by decide)); (case k8 => exact Int.fmod_lt_of_pos _ (by decide)); k_whole; intro h' F' N'; (try k_sweep))) | (refine' my_setba ?k1 ?k2 ?k3 ?k4 ?k5 ?k6 ?k7 ?k8 ?_; (case k1 => k_asm); (case k2 => k_asm); (case k3 => assumption); (case k4 => omega); (case k5 => omega); (case k6 => omega); (case k7 => exact Int.fmod_nonneg_of_pos _ (by decide)); (case k8 => exact Int.fmod_lt_of_pos _ (by decide)); k_whole; intro h' F' N'; (try k_sweep))) | walk1 | (dsimp only; walk1) | (leave1; (try dsimp only)) | fail "no step"))
  · rename_i ha
    exact absurd hz ha
  dsimp only
  refine execs_nilC ?_
  dsimp only
  refine' execs_C (AssignName_C (CallT_C ?_ ?hp) ?hs)
  case hp => rfl
  case hs => rfl
  (repeat' (first | (k_unfold; (try dsimp only)) | (k_end; wrow_close) | ((with_reducible show wpAny _ _ (pyIter (Value.ref _)) (fun it s₂ => LoopAtV _ _ _ _ _ _ _ _ _ it s₂) _ _); first | (with_reducible ((rename IsRange _ _ _ _ _ _ _ _ => hr); (rename Fr _ _ _ _ => F3); (rename News _ _ _ _ => N3); (refine' down_loop ?hh hr hs1 hs2 hn0 F3 N3 ?hm ?_ ?_); (case hh => rfl); (case hm => rfl))) | ((rename IsRange _ _ _ _ _ _ _ _ => hr); (rename Fr _ _ _ _ => F3); (rename News _ _ _ _ => N3); (refine' down_loop ?hh hr hs1 hs2 hn0 F3 N3 ?hm ?_ ?_); (case hh => rfl); (case hm => rfl))) | ((with_reducible show wpAny _ _ (setItem (Value.ref _) (Value.int _ _) _) _ _ _); first | (with_reducible (refine' my_setba ?k1 ?k2 ?k3 ?k4 ?k5 ?k6 ?k7 ?k8 ?_; (case k1 => k_asm); (case k2 => k_asm); (case k3 => assumption); (case k4 => omega); (case k5 => omega); (case k6 => omega); (case k7 => exact Int.fmod_nonneg_of_pos _ (by decide)); (case k8 => exact Int.fmod_lt_of_pos _ (by decide)); k_whole; intro h' F' N'; (try k_sweep))) | (refine' my_setba ?k1 ?k2 ?k3 ?k4 ?k5 ?k6 ?k7 ?k8 ?_; (case k1 => k_asm); (case k2 => k_asm); (case k3 => assumption); (case k4 => omega); (case k5 => omega); (case k6 => omega); (case k7 => exact Int.fmod_nonneg_of_pos _ (by decide)); (case k8 => exact Int.fmod_lt_of_pos _ (by decide)); k_whole; intro h' F' N'; (try k_sweep))) | walk1 | (dsimp only; walk1) | (leave1; (try dsimp only)) | fail "no step"))
  rename Fr _ _ _ _ => F
  rename News _ _ _ _ => N
  refine ⟨_, rfl, rfl, bytearray_C hs1 hs2 ?_ ?_⟩
  · intro S h' hk hn hS
    have F2 := F.keeps hk
    have N2 := News.more F2 (N.grown hk) hS (fun es n q => by cases q) (kts_none F.keep hn)
    clear F N
    (repeat' (first | (k_unfold; (try dsimp only)) | (k_end; wrow_close) | ((with_reducible show wpAny _ _ (pyIter (Value.ref _)) (fun it s₂ => LoopAtV _ _ _ _ _ _ _ _ _ it s₂) _ _); first | (with_reducible ((rename IsRange _ _ _ _ _ _ _ _ => hr); (rename Fr _ _ _ _ => F3); (rename News _ _ _ _ => N3); (refine' down_loop ?hh hr hs1 hs2 hn0 F3 N3 ?hm ?_ ?_); (case hh => rfl); (case hm => rfl))) | ((rename IsRange _ _ _ _ _ _ _ _ => hr); (rename Fr _ _ _ _ => F3); (rename News _ _ _ _ => N3); (refine' down_loop ?hh hr hs1 hs2 hn0 F3 N3 ?hm ?_ ?_); (case hh => rfl); (case hm => rfl))) | ((with_reducible show wpAny _ _ (setItem (Value.ref _) (Value.int _ _) _) _ _ _); first | (with_reducible (refine' my_setba ?k1 ?k2 ?k3 ?k4 ?k5 ?k6 ?k7 ?k8 ?_; (case k1 => k_asm); (case k2 => k_asm); (case k3 => assumption); (case k4 => omega); (case k5 => omega); (case k6 => omega); (case k7 => exact Int.fmod_nonneg_of_pos _ (by decide)); (case k8 => exact Int.fmod_lt_of_pos _ (by decide)); k_whole; intro h' F' N'; (try k_sweep))) | (refine' my_setba ?k1 ?k2 ?k3 ?k4 ?k5 ?k6 ?k7 ?k8 ?_; (case k1 => k_asm); (case k2 => k_asm); (case k3 => assumption); (case k4 => omega); (case k5 => omega); (case k6 => omega); (case k7 => exact Int.fmod_nonneg_of_pos _ (by decide)); (case k8 => exact Int.fmod_lt_of_pos _ (by decide)); k_whole; intro h' F' N'; (try k_sweep))) | walk1 | (dsimp only; walk1) | (leave1; (try dsimp only)) | fail "no step"))
    dsimp only
    refine wpC_any ?_
    (repeat' (first | (k_unfold; (try dsimp only)) | (k_end; wrow_close) | ((with_reducible show wpAny _ _ (pyIter (Value.ref _)) (fun it s₂ => LoopAtV _ _ _ _ _ _ _ _ _ it s₂) _ _); first | (with_reducible ((rename IsRange _ _ _ _ _ _ _ _ => hr); (rename Fr _ _ _ _ => F3); (rename News _ _ _ _ => N3); (refine' down_loop ?hh hr hs1 hs2 hn0 F3 N3 ?hm ?_ ?_); (case hh => rfl); (case hm => rfl))) | ((rename IsRange _ _ _ _ _ _ _ _ => hr); (rename Fr _ _ _ _ => F3); (rename News _ _ _ _ => N3); (refine' down_loop ?hh hr hs1 hs2 hn0 F3 N3 ?hm ?_ ?_); (case hh => rfl); (case hm => rfl))) | ((with_reducible show wpAny _ _ (setItem (Value.ref _) (Value.int _ _) _) _ _ _); first | (with_reducible (refine' my_setba ?k1 ?k2 ?k3 ?k4 ?k5 ?k6 ?k7 ?k8 ?_; (case k1 => k_asm); (case k2 => k_asm); (case k3 => assumption); (case k4 => omega); (case k5 => omega); (case k6 => omega); (case k7 => exact Int.fmod_nonneg_of_pos _ (by decide)); (case k8 => exact Int.fmod_lt_of_pos _ (by decide)); k_whole; intro h' F' N'; (try k_sweep))) | (refine' my_setba ?k1 ?k2 ?k3 ?k4 ?k5 ?k6 ?k7 ?k8 ?_; (case k1 => k_asm); (case k2 => k_asm); (case k3 => assumption); (case k4 => omega); (case k5 => omega); (case k6 => omega); (case k7 => exact Int.fmod_nonneg_of_pos _ (by decide)); (case k8 => exact Int.fmod_lt_of_pos _ (by decide)); k_whole; intro h' F' N'; (try k_sweep))) | walk1 | (dsimp only; walk1) | (leave1; (try dsimp only)) | fail "no step"))
    · refine ⟨rfl, _, _, _, _, rfl, (by assumption), (by assumption), rfl, fun y h1 h2 => ?_⟩
      rw [if_neg h1, if_neg h2, if_neg h1]
    · rename Fr _ _ _ _ => F4
      rename News _ _ _ _ => N4
      rename KBw.bInts _ = _ => hb
      rename ∀ y, y ≠ Str.ofString "n" → y ≠ Str.ofString "place" → _ => hm
      have hf : _ = some (Value.ref S) := (hm (Str.ofString "found") (by decide) (by decide)).trans rfl
      clear hm
      refine ld F4 hf ?_
      (repeat' (first | (k_unfold; (try dsimp only)) | (k_end; wrow_close) | ((with_reducible show wpAny _ _ (pyIter (Value.ref _)) (fun it s₂ => LoopAtV _ _ _ _ _ _ _ _ _ it s₂) _ _); first | (with_reducible ((rename IsRange _ _ _ _ _ _ _ _ => hr); (rename Fr _ _ _ _ => F3); (rename News _ _ _ _ => N3); (refine' down_loop ?hh hr hs1 hs2 hn0 F3 N3 ?hm ?_ ?_); (case hh => rfl); (case hm => rfl))) | ((rename IsRange _ _ _ _ _ _ _ _ => hr); (rename Fr _ _ _ _ => F3); (rename News _ _ _ _ => N3); (refine' down_loop ?hh hr hs1 hs2 hn0 F3 N3 ?hm ?_ ?_); (case hh => rfl); (case hm => rfl))) | ((with_reducible show wpAny _ _ (setItem (Value.ref _) (Value.int _ _) _) _ _ _); first | (with_reducible (refine' my_setba ?k1 ?k2 ?k3 ?k4 ?k5 ?k6 ?k7 ?k8 ?_; (case k1 => k_asm); (case k2 => k_asm); (case k3 => assumption); (case k4 => omega); (case k5 => omega); (case k6 => omega); (case k7 => exact Int.fmod_nonneg_of_pos _ (by decide)); (case k8 => exact Int.fmod_lt_of_pos _ (by decide)); k_whole; intro h' F' N'; (try k_sweep))) | (refine' my_setba ?k1 ?k2 ?k3 ?k4 ?k5 ?k6 ?k7 ?k8 ?_; (case k1 => k_asm); (case k2 => k_asm); (case k3 => assumption); (case k4 => omega); (case k5 => omega); (case k6 => omega); (case k7 => exact Int.fmod_nonneg_of_pos _ (by decide)); (case k8 => exact Int.fmod_lt_of_pos _ (by decide)); k_whole; intro h' F' N'; (try k_sweep))) | walk1 | (dsimp only; walk1) | (leave1; (try dsimp only)) | fail "no step"))
      have hsz := congrArg List.length hb
      rw [KBw.ints_length, dig_length] at hsz
      have hsz := Nat.le_trans (Nat.le_of_eq hsz) (show size.toNat ≤ 8 by omega)
      refine' x_use ?u1 ?u2 ?u3 (Around.frames_deeper B.stack) (bytes_x _ _ _ _ (G.K2.keeps F4.keep) S _ hsz (N4 _ (.head _)).1 _ _ fun t => hR _ _ _ _ hb F4.keep (Nat.le_of_lt (Nat.lt_of_le_of_lt F4.above F4.ns.lt)))
      · rfl
      · exact (by decide : 361 ≤ 400)
      · exact (by decide : 203 ≤ 300)
  · exact x_use (by rfl) (by exact (by decide : 361 ≤ 400)) (by exact (by decide : 204 ≤ 300)) (Around.frames_deeper B.stack) (banew_x _ _ _ _ (G.K2.keeps fun b o e => F.keep b o e) _ _ _)
end Mine
end

section
open PySem PySem.W PySem.Spec PySem.Calls PyProof.Rows
set_option maxRecDepth 100000
set_option maxHeartbeats 8000000
namespace Mine
noncomputable def leastOf (n : Int) : Int := if n < 64 then 1 else if n < 16384 then 2 else if n < 1073741824 then 4 else 8
theorem p1 : (1 : Int) * 2 ^ ((8:Int) * 1 - 2).toNat = 64 := by decide
theorem p2 : (1 : Int) * 2 ^ ((8:Int) * 2 - 2).toNat = 16384 := by decide
theorem p4 : (1 : Int) * 2 ^ ((8:Int) * 4 - 2).toNat = 1073741824 := by decide
theorem p8 : (1 : Int) * 2 ^ ((8:Int) * 8 - 2).toNat = 4611686018427387904 := by decide
theorem least_1 {n : Int} (h : n < 1 * 2 ^ ((8:Int) * 1 - 2).toNat) : leastOf n = 1 := by
  rw [p1] at h
  unfold leastOf
  rw [if_pos h]
theorem least_2 {n : Int} (h1 : ¬ n < 1 * 2 ^ ((8:Int) * 1 - 2).toNat) (h : n < 1 * 2 ^ ((8:Int) * 2 - 2).toNat) : leastOf n = 2 := by
  rw [p1] at h1
  rw [p2] at h
  unfold leastOf
  rw [if_neg h1, if_pos h]
theorem least_4 {n : Int} (h1 : ¬ n < 1 * 2 ^ ((8:Int) * 1 - 2).toNat) (h2 : ¬ n < 1 * 2 ^ ((8:Int) * 2 - 2).toNat) (h : n < 1 * 2 ^ ((8:Int) * 4 - 2).toNat) : leastOf n = 4 := by
  rw [p1] at h1
  rw [p2] at h2
  rw [p4] at h
  unfold leastOf
  rw [if_neg h1, if_neg h2, if_pos h]
theorem least_8 {n : Int} (h1 : ¬ n < 1 * 2 ^ ((8:Int) * 1 - 2).toNat) (h2 : ¬ n < 1 * 2 ^ ((8:Int) * 2 - 2).toNat) (h4 : ¬ n < 1 * 2 ^ ((8:Int) * 4 - 2).toNat) : leastOf n = 8 := by
  rw [p1] at h1
  rw [p2] at h2
  rw [p4] at h4
  unfold leastOf
  rw [if_neg h1, if_neg h2, if_neg h4]
theorem vs_c (w : World) {mean : ExcName → Option Value} {mg mb : Str → Option Value} {A : Around} {base : Heap} {l : List Env} {s : Shared} {R : Result → Shared → Prop} {n : Int} {t : Tok} (G : Gr w mean mg mb 360 200 A base l s)
  (hn0 : 0 ≤ n) (hn1 : n < 4611686018427387904)
  (hR : ∀ (tb : Tok) h' tk, (∀ x o, s.heap.get? x = some o → h'.get? x = some o) → s.heap.objs.size ≤ h'.objs.size → R (.ok (.ret (.int (leastOf n) tb))) { s with heap := h', toks := tk }) :
  codeAny (model PySem.Challenge.rw_no0060_01.row.prog w) A (.call (.ref 76) ⟨[.int n t], []⟩) R s := by
  have hfill : (Mine.hd.heap_1 w.params).In s.heap → PySem.Challenge.rw_no0060_01 = PySem.Challenge.rw_no0060_01 := by k_fill; intro _; rfl
  clear hfill
  refine' enterP G (by decide) ?ho ?hcd ?hbind ?hloc ?_ ?c2 ?c3 ?c4 ?c5; (case ho => k_is); (case hcd => k_is); (case hbind => exact BindsTo.of_eq rfl); (case c5 => decide); (case hloc => exact locs rfl); (case c2 => exact rfl); (case c3 => exact rfl); (case c4 => exact rfl); k_whole; intro L' h₁ F N B X T; (try dsimp only); (try k_lift B); (try k_fold)
  (repeat' (first | (k_unfold; (try dsimp only)) | (k_end; wrow_close) | ((with_reducible show wpAny _ _ (exec (Stmt.For ..) _) _ _ _); first | (with_reducible ((rename Fr _ _ _ _ => lF'); (with_unfolding_all refine' For_turnsG lF' ?g ?_; (case g => exact rfl); k_whole))) | ((rename Fr _ _ _ _ => lF'); (with_unfolding_all refine' For_turnsG lF' ?g ?_; (case g => exact rfl); k_whole))) | walk1 | (dsimp only; walk1) | (leave1; (try dsimp only)) | fail "no step"))
  all_goals (first | rename Fr _ _ _ _ => F | skip)
  · exact least_1 (by assumption) ▸ hR _ _ _ F.keep (Nat.le_of_lt (Nat.lt_of_le_of_lt F.above F.ns.lt))
  · exact least_2 (by assumption) (by assumption) ▸ hR _ _ _ F.keep (Nat.le_of_lt (Nat.lt_of_le_of_lt F.above F.ns.lt))
  · exact least_4 (by assumption) (by assumption) (by assumption) ▸ hR _ _ _ F.keep (Nat.le_of_lt (Nat.lt_of_le_of_lt F.above F.ns.lt))
  · exact least_8 (by assumption) (by assumption) (by assumption) ▸ hR _ _ _ F.keep (Nat.le_of_lt (Nat.lt_of_le_of_lt F.above F.ns.lt))
  · exfalso
    have := p8
    omega
end Mine
end

section
open PySem PySem.W PySem.Spec PySem.Calls PyProof.Rows
set_option maxRecDepth 100000
namespace Mine
theorem bitOr_high {a n : Int} {k : Nat} (ha : 0 ≤ a) (h0 : 0 ≤ n) (h1 : n < 2 ^ k) : Builtin.bitOr (a * 2 ^ k) n = a * 2 ^ k + n := by
  rw [bitOr_and]
  have hp : (0 : Int) ≤ a * 2 ^ k := Int.mul_nonneg ha (Int.le_of_lt (Int.pow_pos (by decide)))
  rw [bitAnd_pp hp h0]
  obtain ⟨a', rfl⟩ := Int.eq_ofNat_of_zero_le ha
  obtain ⟨n', rfl⟩ := Int.eq_ofNat_of_zero_le h0
  have e : ((a' : Int) * 2 ^ k).toNat = 2 ^ k * a' := by
    rw [show ((a' : Int) * 2 ^ k) = ((2 ^ k * a' : Nat) : Int) by rw [Nat.mul_comm]; push_cast; rfl]
    rfl
  have hlt : n' < 2 ^ k := by
    have : ((2 ^ k : Nat) : Int) = (2 : Int) ^ k := by push_cast; rfl
    omega
  have o := nat_or_add_and (2 ^ k * a') n'
  rw [← Nat.two_pow_add_eq_or_of_lt hlt] at o
  rw [e]
  have z : (2 ^ k * a' &&& (n' : Int).toNat) = 0 := by
    show (2 ^ k * a' &&& n') = 0
    omega
  rw [z]
  simp
theorem bitAnd_mask {m : Int} {k : Nat} (h0 : 0 ≤ m) : Builtin.bitAnd m (1 * 2 ^ k - 1) = m % 2 ^ k := by
  have hp : (0 : Int) < 2 ^ k := Int.pow_pos (by decide)
  rw [bitAnd_pp h0 (by omega)]
  obtain ⟨m', rfl⟩ := Int.eq_ofNat_of_zero_le h0
  have e : ((1 : Int) * 2 ^ k - 1).toNat = 2 ^ k - 1 := by
    have : ((2 ^ k : Nat) : Int) = (2 : Int) ^ k := by push_cast; rfl
    omega
  rw [e]
  show ((m' &&& (2 ^ k - 1) : Nat) : Int) = _
  rw [Nat.and_two_pow_sub_one_eq_mod]
  push_cast
  rfl
/-- the number that octets tell -/
noncomputable def bv (ks : List Int) : Int := ks.foldl (fun a b => a * 256 + b) 0
theorem foldl_from (ks : List Int) : ∀ a : Int, ks.foldl (fun a b => a * 256 + b) a = a * 256 ^ ks.length + bv ks := by
  induction ks with
  | nil => intro a; simp [bv]
  | cons k ks ih =>
    intro a
    show List.foldl _ (a * 256 + k) ks = _
    rw [ih, show bv (k :: ks) = List.foldl (fun a b => a * 256 + b) (0 * 256 + k) ks from rfl, ih, List.length_cons, Int.pow_succ]
    rw [Int.add_mul, Int.zero_mul, Int.zero_add, Int.mul_assoc, Int.mul_comm 256, Int.add_assoc]
theorem bv_cons (k : Int) (ks : List Int) : bv (k :: ks) = k * 256 ^ ks.length + bv ks := by
  show List.foldl _ (0 * 256 + k) ks = _
  rw [foldl_from, Int.zero_mul, Int.zero_add]
theorem bv_dig (n : Int) : ∀ i, bv (dig n i) = n % 256 ^ i
  | 0 => by simp [dig, bv, Int.emod_one]
  | i + 1 => by
    rw [show dig n (i + 1) = (n / 256 ^ i) % 256 :: dig n i from rfl, bv_cons, dig_length, bv_dig n i]
    have hp : (0 : Int) < 256 ^ i := Int.pow_pos (by decide)
    rw [Int.pow_succ]
    have e1 := Int.emod_add_mul_ediv n (256 ^ i)
    have e2 := Int.emod_add_mul_ediv (n / 256 ^ i) 256
    have e3 := Int.emod_add_mul_ediv n (256 ^ i * 256)
    have e4 : n / (256 ^ i * 256) = n / 256 ^ i / 256 := (Int.ediv_ediv_of_nonneg (Int.le_of_lt hp)).symm
    rw [e4] at e3
    have e5 : 256 ^ i * (n / 256 ^ i) = 256 ^ i * (n / 256 ^ i % 256) + 256 ^ i * 256 * (n / 256 ^ i / 256) := by
      conv => lhs; rw [← e2]
      rw [Int.mul_add, Int.mul_assoc]
    rw [Int.mul_comm (n / 256 ^ i % 256)]
    omega
theorem bv_dig_small {n : Int} {i : Nat} (h0 : 0 ≤ n) (h1 : n < 256 ^ i) : bv (dig n i) = n := by
  rw [bv_dig, Int.emod_eq_of_lt h0 h1]
theorem bv_nonneg : ∀ {ks : List Int}, (∀ x ∈ ks, 0 ≤ x) → 0 ≤ bv ks
  | [], _ => Int.le_refl 0
  | k :: ks, h => by
    rw [bv_cons]
    have h1 := h k (.head _)
    have h2 := bv_nonneg fun x hx => h x (.tail _ hx)
    have h3 : (0 : Int) ≤ k * 256 ^ ks.length := Int.mul_nonneg h1 (Int.le_of_lt (Int.pow_pos (by decide)))
    omega
/-- what put_varint writes -/
noncomputable def enc (n size : Int) : Int := idxOf size * 2 ^ (8 * size - 2).toNat + n
theorem least_le {n size : Int} (hn : n < 4611686018427387904) (hs : size = 1 ∨ size = 2 ∨ size = 4 ∨ size = 8) : leastOf n ≤ size ↔ n < 2 ^ (8 * size - 2).toNat := by
  unfold leastOf
  have p1 : (2 : Int) ^ ((8:Int) * 1 - 2).toNat = 64 := by decide
  have p2 : (2 : Int) ^ ((8:Int) * 2 - 2).toNat = 16384 := by decide
  have p4 : (2 : Int) ^ ((8:Int) * 4 - 2).toNat = 1073741824 := by decide
  have p8 : (2 : Int) ^ ((8:Int) * 8 - 2).toNat = 4611686018427387904 := by decide
  rcases hs with rfl | rfl | rfl | rfl
  · rw [p1]; split
    · omega
    · split
      · omega
      · split <;> omega
  · rw [p2]; split
    · omega
    · split
      · omega
      · split <;> omega
  · rw [p4]; split
    · omega
    · split
      · omega
      · split <;> omega
  · rw [p8]; split
    · omega
    · split
      · omega
      · split <;> omega
theorem enc_or {n size : Int} (h0 : 0 ≤ n) (hn : n < 4611686018427387904) (hs : size = 1 ∨ size = 2 ∨ size = 4 ∨ size = 8) (hl : leastOf n ≤ size) : Builtin.bitOr (idxOf size * 2 ^ (8 * size - 2).toNat) n = enc n size :=
  bitOr_high (by rcases hs with rfl | rfl | rfl | rfl <;> decide) h0 ((least_le hn hs).mp hl)
theorem enc_in {n size : Int} (h0 : 0 ≤ n) (hn : n < 4611686018427387904) (hs : size = 1 ∨ size = 2 ∨ size = 4 ∨ size = 8) (hl : leastOf n ≤ size) : 0 ≤ enc n size ∧ enc n size < 256 ^ size.toNat := by
  have h1 := (least_le hn hs).mp hl
  unfold enc
  revert h1
  rcases hs with rfl | rfl | rfl | rfl
  · rw [show (2 : Int) ^ ((8:Int) * 1 - 2).toNat = 64 by decide, show (256 : Int) ^ (1 : Int).toNat = 256 by decide, show idxOf 1 = 0 by decide]; omega
  · rw [show (2 : Int) ^ ((8:Int) * 2 - 2).toNat = 16384 by decide, show (256 : Int) ^ (2 : Int).toNat = 65536 by decide, show idxOf 2 = 1 by decide]; omega
  · rw [show (2 : Int) ^ ((8:Int) * 4 - 2).toNat = 1073741824 by decide, show (256 : Int) ^ (4 : Int).toNat = 4294967296 by decide, show idxOf 4 = 2 by decide]; omega
  · rw [show (2 : Int) ^ ((8:Int) * 8 - 2).toNat = 4611686018427387904 by decide, show (256 : Int) ^ (8 : Int).toNat = 18446744073709551616 by decide, show idxOf 8 = 3 by decide]; omega
end Mine
end

section
open PySem PySem.W PySem.Spec PySem.Calls PyProof.Rows
set_option maxRecDepth 100000
set_option maxHeartbeats 8000000
namespace Mine
theorem least_in (n : Int) : leastOf n = 1 ∨ leastOf n = 2 ∨ leastOf n = 4 ∨ leastOf n = 8 := by
  unfold leastOf
  split
  · exact .inl rfl
  · split
    · exact .inr (.inl rfl)
    · split
      · exact .inr (.inr (.inl rfl))
      · exact .inr (.inr (.inr rfl))
theorem pv_C (w : World) {mean : ExcName → Option Value} {mg mb : Str → Option Value} {A : Around} {base : Heap} {l : List Env} {s : Shared} {R : Result → Shared → Prop} {n size : Int} {t u : Tok} (G : Gr w mean mg mb 358 190 A base l s)
  (hn0 : 0 ≤ n) (hn1 : n < 4611686018427387904) (hs : size = 1 ∨ size = 2 ∨ size = 4 ∨ size = 8) (hl : leastOf n ≤ size)
  (hR : ∀ (b : Array UInt8) (tb : Tok) h' tk, KBw.bInts b = dig (enc n size) size.toNat → (∀ x o, s.heap.get? x = some o → h'.get? x = some o) → s.heap.objs.size ≤ h'.objs.size → R (.ok (.ret (.bytes b tb))) { s with heap := h', toks := tk }) :
  codeC (model PySem.Challenge.rw_no0060_01.row.prog w) A (.call (.ref 83) ⟨[.int n t, .int size u], []⟩) R s := by
  have hfill : (Mine.hd.heap_1 w.params).In s.heap → PySem.Challenge.rw_no0060_01 = PySem.Challenge.rw_no0060_01 := by k_fill; intro _; rfl
  clear hfill
  have hs1 : 1 ≤ size := by omega
  have hs8 : size ≤ 8 := by omega
  have hi0 : 0 ≤ idxOf size ∧ idxOf size ≤ 3 := by rcases hs with rfl | rfl | rfl | rfl <;> decide
  refine' enterC G (by decide) ?ho ?hcd ?hbind ?hloc ?_ ?c2 ?c3 ?c4 ?c5; (case ho => k_is); (case hcd => k_is); (case hbind => exact BindsTo.of_eq rfl); (case c5 => decide); (case hloc => exact locs rfl); (case c2 => exact rfl); (case c3 => exact rfl); (case c4 => exact rfl); k_whole; intro L' h₁ F N B X T; (try dsimp only); (try k_lift B); (try k_fold)
  refine execs_C (wpC_any ?_)
  (repeat' (first | (k_unfold; (try dsimp only)) | (k_end; wrow_close) | ((with_reducible show wpAny _ _ (getMethod (Value.ref 55) _ _) _ _ _); first | (with_reducible ((rename Fr _ _ _ _ => F3); refine index_method (X.keeps F3.keep) ?_)) | ((rename Fr _ _ _ _ => F3); refine index_method (X.keeps F3.keep) ?_)) | ((with_reducible show wpAny _ _ (call (Value.builtin "tuple.index") _) _ _ _); first | (with_reducible ((rename Fr _ _ _ _ => F3); (refine index_c w (G.push B F3 (by decide) (by decide)) hs fun t => ?_))) | ((rename Fr _ _ _ _ => F3); (refine index_c w (G.push B F3 (by decide) (by decide)) hs fun t => ?_))) | ((with_reducible show wpAny _ _ (compareOp _ _ (Value.ref 55)) _ _ _); first | (with_reducible ((rename Fr _ _ _ _ => F3); refine notIn_sizes' (X.keeps F3.keep) hs ?_)) | ((rename Fr _ _ _ _ => F3); refine notIn_sizes' (X.keeps F3.keep) hs ?_)) | ((with_reducible show wpAny _ _ (call (Value.ref 76) _) _ _ _); first | (with_reducible ((rename Fr _ _ _ _ => F3); (rename News _ _ _ _ => N3); (refine wpAny_call (vs_c w (G.push B F3 (by decide) (by decide)) hn0 hn1 fun tb h' tk hk hz => ?_)); (have F4 := F3.keeps hk); (have N4 := N3.grown hk); clear F3 N3; (try dsimp only))) | ((rename Fr _ _ _ _ => F3); (rename News _ _ _ _ => N3); (refine wpAny_call (vs_c w (G.push B F3 (by decide) (by decide)) hn0 hn1 fun tb h' tk hk hz => ?_)); (have F4 := F3.keeps hk); (have N4 := N3.grown hk); clear F3 N3; (try dsimp only))) | walk1 | (dsimp only; walk1) | (leave1; (try dsimp only)) | fail "no step"))
  refine execs_C (wpC_any ?_)
  (repeat' (first | (k_unfold; (try dsimp only)) | (k_end; wrow_close) | ((with_reducible show wpAny _ _ (getMethod (Value.ref 55) _ _) _ _ _); first | (with_reducible ((rename Fr _ _ _ _ => F3); refine index_method (X.keeps F3.keep) ?_)) | ((rename Fr _ _ _ _ => F3); refine index_method (X.keeps F3.keep) ?_)) | ((with_reducible show wpAny _ _ (call (Value.builtin "tuple.index") _) _ _ _); first | (with_reducible ((rename Fr _ _ _ _ => F3); (refine index_c w (G.push B F3 (by decide) (by decide)) hs fun t => ?_))) | ((rename Fr _ _ _ _ => F3); (refine index_c w (G.push B F3 (by decide) (by decide)) hs fun t => ?_))) | ((with_reducible show wpAny _ _ (compareOp _ _ (Value.ref 55)) _ _ _); first | (with_reducible ((rename Fr _ _ _ _ => F3); refine notIn_sizes' (X.keeps F3.keep) hs ?_)) | ((rename Fr _ _ _ _ => F3); refine notIn_sizes' (X.keeps F3.keep) hs ?_)) | ((with_reducible show wpAny _ _ (call (Value.ref 76) _) _ _ _); first | (with_reducible ((rename Fr _ _ _ _ => F3); (rename News _ _ _ _ => N3); (refine wpAny_call (vs_c w (G.push B F3 (by decide) (by decide)) hn0 hn1 fun tb h' tk hk hz => ?_)); (have F4 := F3.keeps hk); (have N4 := N3.grown hk); clear F3 N3; (try dsimp only))) | ((rename Fr _ _ _ _ => F3); (rename News _ _ _ _ => N3); (refine wpAny_call (vs_c w (G.push B F3 (by decide) (by decide)) hn0 hn1 fun tb h' tk hk hz => ?_)); (have F4 := F3.keeps hk); (have N4 := N3.grown hk); clear F3 N3; (try dsimp only))) | walk1 | (dsimp only; walk1) | (leave1; (try dsimp only)) | fail "no step"))
  refine execs_C (wpC_any ?_)
  (repeat' (first | (k_unfold; (try dsimp only)) | (k_end; wrow_close) | ((with_reducible show wpAny _ _ (getMethod (Value.ref 55) _ _) _ _ _); first | (with_reducible ((rename Fr _ _ _ _ => F3); refine index_method (X.keeps F3.keep) ?_)) | ((rename Fr _ _ _ _ => F3); refine index_method (X.keeps F3.keep) ?_)) | ((with_reducible show wpAny _ _ (call (Value.builtin "tuple.index") _) _ _ _); first | (with_reducible ((rename Fr _ _ _ _ => F3); (refine index_c w (G.push B F3 (by decide) (by decide)) hs fun t => ?_))) | ((rename Fr _ _ _ _ => F3); (refine index_c w (G.push B F3 (by decide) (by decide)) hs fun t => ?_))) | ((with_reducible show wpAny _ _ (compareOp _ _ (Value.ref 55)) _ _ _); first | (with_reducible ((rename Fr _ _ _ _ => F3); refine notIn_sizes' (X.keeps F3.keep) hs ?_)) | ((rename Fr _ _ _ _ => F3); refine notIn_sizes' (X.keeps F3.keep) hs ?_)) | ((with_reducible show wpAny _ _ (call (Value.ref 76) _) _ _ _); first | (with_reducible ((rename Fr _ _ _ _ => F3); (rename News _ _ _ _ => N3); (refine wpAny_call (vs_c w (G.push B F3 (by decide) (by decide)) hn0 hn1 fun tb h' tk hk hz => ?_)); (have F4 := F3.keeps hk); (have N4 := N3.grown hk); clear F3 N3; (try dsimp only))) | ((rename Fr _ _ _ _ => F3); (rename News _ _ _ _ => N3); (refine wpAny_call (vs_c w (G.push B F3 (by decide) (by decide)) hn0 hn1 fun tb h' tk hk hz => ?_)); (have F4 := F3.keeps hk); (have N4 := N3.grown hk); clear F3 N3; (try dsimp only))) | walk1 | (dsimp only; walk1) | (leave1; (try dsimp only)) | fail "no step"))
  refine execs_C (Return_C (Call_C ?_))
  (repeat' (first | (k_unfold; (try dsimp only)) | (k_end; wrow_close) | ((with_reducible show wpAny _ _ (getMethod (Value.ref 55) _ _) _ _ _); first | (with_reducible ((rename Fr _ _ _ _ => F3); refine index_method (X.keeps F3.keep) ?_)) | ((rename Fr _ _ _ _ => F3); refine index_method (X.keeps F3.keep) ?_)) | ((with_reducible show wpAny _ _ (call (Value.builtin "tuple.index") _) _ _ _); first | (with_reducible ((rename Fr _ _ _ _ => F3); (refine index_c w (G.push B F3 (by decide) (by decide)) hs fun t => ?_))) | ((rename Fr _ _ _ _ => F3); (refine index_c w (G.push B F3 (by decide) (by decide)) hs fun t => ?_))) | ((with_reducible show wpAny _ _ (compareOp _ _ (Value.ref 55)) _ _ _); first | (with_reducible ((rename Fr _ _ _ _ => F3); refine notIn_sizes' (X.keeps F3.keep) hs ?_)) | ((rename Fr _ _ _ _ => F3); refine notIn_sizes' (X.keeps F3.keep) hs ?_)) | ((with_reducible show wpAny _ _ (call (Value.ref 76) _) _ _ _); first | (with_reducible ((rename Fr _ _ _ _ => F3); (rename News _ _ _ _ => N3); (refine wpAny_call (vs_c w (G.push B F3 (by decide) (by decide)) hn0 hn1 fun tb h' tk hk hz => ?_)); (have F4 := F3.keeps hk); (have N4 := N3.grown hk); clear F3 N3; (try dsimp only))) | ((rename Fr _ _ _ _ => F3); (rename News _ _ _ _ => N3); (refine wpAny_call (vs_c w (G.push B F3 (by decide) (by decide)) hn0 hn1 fun tb h' tk hk hz => ?_)); (have F4 := F3.keeps hk); (have N4 := N3.grown hk); clear F3 N3; (try dsimp only))) | walk1 | (dsimp only; walk1) | (leave1; (try dsimp only)) | fail "no step"))
  rename Fr _ _ _ _ => F3
  refine CallC.of (X.keeps F3.keep) (by kernel_rfl) rfl (wpC_call (pw_C w (G.push B F3 (by decide) (by decide)) hs1 hs8 ?_ ?_ fun b tb h' tk hb hk hz => ?_))
  · rw [enc_or hn0 hn1 hs hl]
    exact (enc_in hn0 hn1 hs hl).1
  · rw [enc_or hn0 hn1 hs hl]
    exact (enc_in hn0 hn1 hs hl).2
  · rw [enc_or hn0 hn1 hs hl] at hb
    exact hR b tb h' tk hb (fun x o e => hk x o (F3.keep x o e)) (Nat.le_trans (Nat.le_of_lt (Nat.lt_of_le_of_lt F3.above F3.ns.lt)) hz)
theorem pvn_C (w : World) {mean : ExcName → Option Value} {mg mb : Str → Option Value} {A : Around} {base : Heap} {l : List Env} {s : Shared} {R : Result → Shared → Prop} {n : Int} {t : Tok} (G : Gr w mean mg mb 358 190 A base l s)
  (hn0 : 0 ≤ n) (hn1 : n < 4611686018427387904)
  (hR : ∀ (b : Array UInt8) (tb : Tok) h' tk, KBw.bInts b = dig (enc n (leastOf n)) (leastOf n).toNat → (∀ x o, s.heap.get? x = some o → h'.get? x = some o) → s.heap.objs.size ≤ h'.objs.size → R (.ok (.ret (.bytes b tb))) { s with heap := h', toks := tk }) :
  codeC (model PySem.Challenge.rw_no0060_01.row.prog w) A (.call (.ref 83) ⟨[.int n t, .none], []⟩) R s := by
  have hfill : (Mine.hd.heap_1 w.params).In s.heap → PySem.Challenge.rw_no0060_01 = PySem.Challenge.rw_no0060_01 := by k_fill; intro _; rfl
  clear hfill
  have hs : leastOf n = 1 ∨ leastOf n = 2 ∨ leastOf n = 4 ∨ leastOf n = 8 := least_in n
  have hl : leastOf n ≤ leastOf n := Int.le_refl _
  have hs1 : 1 ≤ leastOf n := by omega
  have hs8 : leastOf n ≤ 8 := by omega
  have hi0 : 0 ≤ idxOf (leastOf n) ∧ idxOf (leastOf n) ≤ 3 := by rcases hs with e | e | e | e <;> rw [e] <;> decide
  refine' enterC G (by decide) ?ho ?hcd ?hbind ?hloc ?_ ?c2 ?c3 ?c4 ?c5; (case ho => k_is); (case hcd => k_is); (case hbind => exact BindsTo.of_eq rfl); (case c5 => decide); (case hloc => exact locs rfl); (case c2 => exact rfl); (case c3 => exact rfl); (case c4 => exact rfl); k_whole; intro L' h₁ F N B X T; (try dsimp only); (try k_lift B); (try k_fold)
  refine execs_C (wpC_any ?_)
  (repeat' (first | (k_unfold; (try dsimp only)) | (k_end; wrow_close) | ((with_reducible show wpAny _ _ (getMethod (Value.ref 55) _ _) _ _ _); first | (with_reducible ((rename Fr _ _ _ _ => F3); refine index_method (X.keeps F3.keep) ?_)) | ((rename Fr _ _ _ _ => F3); refine index_method (X.keeps F3.keep) ?_)) | ((with_reducible show wpAny _ _ (call (Value.builtin "tuple.index") _) _ _ _); first | (with_reducible ((rename Fr _ _ _ _ => F3); (refine index_c w (G.push B F3 (by decide) (by decide)) hs fun t => ?_))) | ((rename Fr _ _ _ _ => F3); (refine index_c w (G.push B F3 (by decide) (by decide)) hs fun t => ?_))) | ((with_reducible show wpAny _ _ (compareOp _ _ (Value.ref 55)) _ _ _); first | (with_reducible ((rename Fr _ _ _ _ => F3); refine notIn_sizes' (X.keeps F3.keep) hs ?_)) | ((rename Fr _ _ _ _ => F3); refine notIn_sizes' (X.keeps F3.keep) hs ?_)) | ((with_reducible show wpAny _ _ (call (Value.ref 76) _) _ _ _); first | (with_reducible ((rename Fr _ _ _ _ => F3); (rename News _ _ _ _ => N3); (refine wpAny_call (vs_c w (G.push B F3 (by decide) (by decide)) hn0 hn1 fun tb h' tk hk hz => ?_)); (have F4 := F3.keeps hk); (have N4 := N3.grown hk); clear F3 N3; (try dsimp only))) | ((rename Fr _ _ _ _ => F3); (rename News _ _ _ _ => N3); (refine wpAny_call (vs_c w (G.push B F3 (by decide) (by decide)) hn0 hn1 fun tb h' tk hk hz => ?_)); (have F4 := F3.keeps hk); (have N4 := N3.grown hk); clear F3 N3; (try dsimp only))) | walk1 | (dsimp only; walk1) | (leave1; (try dsimp only)) | fail "no step"))
  refine execs_C (wpC_any ?_)
  (repeat' (first | (k_unfold; (try dsimp only)) | (k_end; wrow_close) | ((with_reducible show wpAny _ _ (getMethod (Value.ref 55) _ _) _ _ _); first | (with_reducible ((rename Fr _ _ _ _ => F3); refine index_method (X.keeps F3.keep) ?_)) | ((rename Fr _ _ _ _ => F3); refine index_method (X.keeps F3.keep) ?_)) | ((with_reducible show wpAny _ _ (call (Value.builtin "tuple.index") _) _ _ _); first | (with_reducible ((rename Fr _ _ _ _ => F3); (refine index_c w (G.push B F3 (by decide) (by decide)) hs fun t => ?_))) | ((rename Fr _ _ _ _ => F3); (refine index_c w (G.push B F3 (by decide) (by decide)) hs fun t => ?_))) | ((with_reducible show wpAny _ _ (compareOp _ _ (Value.ref 55)) _ _ _); first | (with_reducible ((rename Fr _ _ _ _ => F3); refine notIn_sizes' (X.keeps F3.keep) hs ?_)) | ((rename Fr _ _ _ _ => F3); refine notIn_sizes' (X.keeps F3.keep) hs ?_)) | ((with_reducible show wpAny _ _ (call (Value.ref 76) _) _ _ _); first | (with_reducible ((rename Fr _ _ _ _ => F3); (rename News _ _ _ _ => N3); (refine wpAny_call (vs_c w (G.push B F3 (by decide) (by decide)) hn0 hn1 fun tb h' tk hk hz => ?_)); (have F4 := F3.keeps hk); (have N4 := N3.grown hk); clear F3 N3; (try dsimp only))) | ((rename Fr _ _ _ _ => F3); (rename News _ _ _ _ => N3); (refine wpAny_call (vs_c w (G.push B F3 (by decide) (by decide)) hn0 hn1 fun tb h' tk hk hz => ?_)); (have F4 := F3.keeps hk); (have N4 := N3.grown hk); clear F3 N3; (try dsimp only))) | walk1 | (dsimp only; walk1) | (leave1; (try dsimp only)) | fail "no step"))
  refine execs_C (wpC_any ?_)
  (repeat' (first | (k_unfold; (try dsimp only)) | (k_end; wrow_close) | ((with_reducible show wpAny _ _ (getMethod (Value.ref 55) _ _) _ _ _); first | (with_reducible ((rename Fr _ _ _ _ => F3); refine index_method (X.keeps F3.keep) ?_)) | ((rename Fr _ _ _ _ => F3); refine index_method (X.keeps F3.keep) ?_)) | ((with_reducible show wpAny _ _ (call (Value.builtin "tuple.index") _) _ _ _); first | (with_reducible ((rename Fr _ _ _ _ => F3); (refine index_c w (G.push B F3 (by decide) (by decide)) hs fun t => ?_))) | ((rename Fr _ _ _ _ => F3); (refine index_c w (G.push B F3 (by decide) (by decide)) hs fun t => ?_))) | ((with_reducible show wpAny _ _ (compareOp _ _ (Value.ref 55)) _ _ _); first | (with_reducible ((rename Fr _ _ _ _ => F3); refine notIn_sizes' (X.keeps F3.keep) hs ?_)) | ((rename Fr _ _ _ _ => F3); refine notIn_sizes' (X.keeps F3.keep) hs ?_)) | ((with_reducible show wpAny _ _ (call (Value.ref 76) _) _ _ _); first | (with_reducible ((rename Fr _ _ _ _ => F3); (rename News _ _ _ _ => N3); (refine wpAny_call (vs_c w (G.push B F3 (by decide) (by decide)) hn0 hn1 fun tb h' tk hk hz => ?_)); (have F4 := F3.keeps hk); (have N4 := N3.grown hk); clear F3 N3; (try dsimp only))) | ((rename Fr _ _ _ _ => F3); (rename News _ _ _ _ => N3); (refine wpAny_call (vs_c w (G.push B F3 (by decide) (by decide)) hn0 hn1 fun tb h' tk hk hz => ?_)); (have F4 := F3.keeps hk); (have N4 := N3.grown hk); clear F3 N3; (try dsimp only))) | walk1 | (dsimp only; walk1) | (leave1; (try dsimp only)) | fail "no step"))
  refine execs_C (Return_C (Call_C ?_))
  (repeat' (first | (k_unfold; (try dsimp only)) | (k_end; wrow_close) | ((with_reducible show wpAny _ _ (getMethod (Value.ref 55) _ _) _ _ _); first | (with_reducible ((rename Fr _ _ _ _ => F3); refine index_method (X.keeps F3.keep) ?_)) | ((rename Fr _ _ _ _ => F3); refine index_method (X.keeps F3.keep) ?_)) | ((with_reducible show wpAny _ _ (call (Value.builtin "tuple.index") _) _ _ _); first | (with_reducible ((rename Fr _ _ _ _ => F3); (refine index_c w (G.push B F3 (by decide) (by decide)) hs fun t => ?_))) | ((rename Fr _ _ _ _ => F3); (refine index_c w (G.push B F3 (by decide) (by decide)) hs fun t => ?_))) | ((with_reducible show wpAny _ _ (compareOp _ _ (Value.ref 55)) _ _ _); first | (with_reducible ((rename Fr _ _ _ _ => F3); refine notIn_sizes' (X.keeps F3.keep) hs ?_)) | ((rename Fr _ _ _ _ => F3); refine notIn_sizes' (X.keeps F3.keep) hs ?_)) | ((with_reducible show wpAny _ _ (call (Value.ref 76) _) _ _ _); first | (with_reducible ((rename Fr _ _ _ _ => F3); (rename News _ _ _ _ => N3); (refine wpAny_call (vs_c w (G.push B F3 (by decide) (by decide)) hn0 hn1 fun tb h' tk hk hz => ?_)); (have F4 := F3.keeps hk); (have N4 := N3.grown hk); clear F3 N3; (try dsimp only))) | ((rename Fr _ _ _ _ => F3); (rename News _ _ _ _ => N3); (refine wpAny_call (vs_c w (G.push B F3 (by decide) (by decide)) hn0 hn1 fun tb h' tk hk hz => ?_)); (have F4 := F3.keeps hk); (have N4 := N3.grown hk); clear F3 N3; (try dsimp only))) | walk1 | (dsimp only; walk1) | (leave1; (try dsimp only)) | fail "no step"))
  rename Fr _ _ _ _ => F3
  refine CallC.of (X.keeps F3.keep) (by kernel_rfl) rfl (wpC_call (pw_C w (G.push B F3 (by decide) (by decide)) hs1 hs8 ?_ ?_ fun b tb h' tk hb hk hz => ?_))
  · rw [enc_or hn0 hn1 hs hl]
    exact (enc_in hn0 hn1 hs hl).1
  · rw [enc_or hn0 hn1 hs hl]
    exact (enc_in hn0 hn1 hs hl).2
  · rw [enc_or hn0 hn1 hs hl] at hb
    exact hR b tb h' tk hb (fun x o e => hk x o (F3.keep x o e)) (Nat.le_trans (Nat.le_of_lt (Nat.lt_of_le_of_lt F3.above F3.ns.lt)) hz)
end Mine
end

section
open PySem PySem.W PySem.Spec PySem.Calls PyProof.Rows
set_option maxRecDepth 100000
set_option maxHeartbeats 2000000
namespace Mine
/-- a QuicError's dict: its code is the int 1 -/
noncomputable def IsQ (od : Obj) : Prop := ∃ h1 h2 h3 k1 k2 k3 t1 v2 v3, od = qDict h1 h2 h3 k1 k2 k3 (.int 1 t1) v2 v3
noncomputable def RaisePost (K : Frag) (C : Addr) (E : Value → Shared → Prop) (v : Value) (s₁ : Shared) : Prop := ∃ e dx t, v = .ref e ∧ K.In s₁.heap ∧ s₁.heap.get? e = some (excObj C dx t) ∧ E (.ref e) s₁
section
variable {w : World} {A : Around} {E : Value → Shared → Prop} {s : Shared} {env : Env}
theorem kts_look {K : Frag} {h : Heap} {C : Addr} {T : String} (X : K.In h) (q : ktsIn K C T = true) : ∃ nm qn N bs bm hdct sn sub ab col dd k0 k1 k2 k3 k5 newId,
    K.lookup C = some (excClassObj nm qn C N bs bm hdct sn sub ab col dd k0 k1 k2 k3 k5 newId) ∧ bm.contains (.type "BaseException") = true ∧ bm.contains (.type T) = true := by
  obtain ⟨nm, qn, N, bs, bm, hdct, sn, sub, ab, col, dd, k0, k1, k2, k3, k5, n, e, hb, ht⟩ := kts_cls X q
  cases z : K.lookup C with
  | none =>
    unfold ktsIn at q
    rw [z] at q
    cases q
  | some o =>
    have e2 := X _ _ z
    rw [e] at e2
    cases e2
    exact ⟨nm, qn, N, bs, bm, hdct, sn, sub, ab, col, dd, k0, k1, k2, k3, k5, n, rfl, hb, ht⟩
theorem Raise_K {K : Frag} {h₀ : Heap} {C : Addr} {M : Model} {f : PySem.Expr} {as : List PySem.Expr} {ks : List Keyword} {cpos pos : Pos} {Q : Flow → Shared → Prop} (X : K.In h₀) (hh : A.handled = none) (q : ktsIn K C "BaseException" = true)
    (h : wpAny M A (eval (.Call f as ks cpos) env) (RaisePost K C E) E s) : wpAny M A (exec (.Raise (some (.Call f as ks cpos)) none pos) env) Q E s := by
  rw [arm_exec_Raise]
  obtain ⟨nm, qn, ns, bs, bm, hd, sn, sub, ab, col, dd, k0, k1, k2, k3, k5, n, ho, hb, _⟩ := kts_look X q
  refine wpAny_bind (wpAny_standAt (raiseStmt_dx (C := C) (nm := nm) (q := qn) (N := ns) (bs := bs) (bm := bm) (hdct := hd) (sn := sn) (sub := sub) (ab := ab) (col := col) (dd := dd) (k0 := k0) (k1 := k1) (k2 := k2) (k3 := k3) (k5 := k5) (newId := n) hb hh ?_))
  refine wpAny_bind (wpAny_mono h (fun v s₁ h₁ => wpAny_bind (wpAny_standAt (wpAny_pure ?_))) fun _ _ x => x)
  obtain ⟨e, dx, t, rfl, hK, he, hE⟩ := h₁
  exact ⟨e, dx, t, rfl, hK _ _ ho, he, hE⟩
theorem q_is : ktsIn (Mine.hd.heap_1 w.params) 31 "BaseException" = true := by kernel_rfl
theorem s_is : ktsIn (Mine.hd.heap_1 w.params) 51 "BaseException" = true := by kernel_rfl
end
section
variable {w : World} {mean : ExcName → Option Value} {mg mb : Str → Option Value} {A : Around} {base : Heap} {l : List Env} {s : Shared} {E : Value → Shared → Prop}
theorem q1_c (G : Gr w mean mg mb 360 200 A base l s) {t1 t2 t3 : Tok} {Q : Value → Shared → Prop} (hQ : ∀ e dx t h' tk od, IsQ od → NewX s.heap h' e 31 dx t od → Q (.ref e) { s with heap := h', toks := tk }) :
    wpAny (model PySem.Challenge.rw_no0060_01.row.prog w) A (call (.ref 31) [.int 1 t1, .int 0 t2, .str (Str.ofString "a number that has no such octets") t3]) Q E s :=
  G.x (by decide) (by decide) (q1_x w l A.guards s G.K2 t1 t2 t3 Q E fun e dx t h' tk _ _ _ _ _ _ X => hQ e dx t h' tk _ ⟨_, _, _, _, _, _, _, _, _, rfl⟩ X)
theorem q2_c (G : Gr w mean mg mb 360 200 A base l s) {t1 t2 t3 : Tok} {Q : Value → Shared → Prop} (hQ : ∀ e dx t h' tk od, IsQ od → NewX s.heap h' e 31 dx t od → Q (.ref e) { s with heap := h', toks := tk }) :
    wpAny (model PySem.Challenge.rw_no0060_01.row.prog w) A (call (.ref 31) [.int 1 t1, .int 0 t2, .str (Str.ofString "a number that is too great") t3]) Q E s :=
  G.x (by decide) (by decide) (q2_x w l A.guards s G.K2 t1 t2 t3 Q E fun e dx t h' tk _ _ _ _ _ _ X => hQ e dx t h' tk _ ⟨_, _, _, _, _, _, _, _, _, rfl⟩ X)
theorem q3_c (G : Gr w mean mg mb 360 200 A base l s) {t1 t2 t3 : Tok} {Q : Value → Shared → Prop} (hQ : ∀ e dx t h' tk od, IsQ od → NewX s.heap h' e 31 dx t od → Q (.ref e) { s with heap := h', toks := tk }) :
    wpAny (model PySem.Challenge.rw_no0060_01.row.prog w) A (call (.ref 31) [.int 1 t1, .int 0 t2, .str (Str.ofString "a size in which a number has no room") t3]) Q E s :=
  G.x (by decide) (by decide) (q3_x w l A.guards s G.K2 t1 t2 t3 Q E fun e dx t h' tk _ _ _ _ _ _ X => hQ e dx t h' tk _ ⟨_, _, _, _, _, _, _, _, _, rfl⟩ X)
theorem s1_c (G : Gr w mean mg mb 360 200 A base l s) {t3 : Tok} {Q : Value → Shared → Prop} (hQ : ∀ e dx t h' tk od, NewX s.heap h' e 51 dx t od → Q (.ref e) { s with heap := h', toks := tk }) :
    wpAny (model PySem.Challenge.rw_no0060_01.row.prog w) A (call (.ref 51) [.str (Str.ofString "a number ends too early") t3]) Q E s :=
  G.x (by decide) (by decide) (s1_x w l A.guards s G.K2 t3 Q E fun e dx t h' tk _ _ X => hQ e dx t h' tk _ X)
end
end Mine
end

section
open PySem PySem.W PySem.Spec PySem.Calls PyProof.Rows
set_option maxRecDepth 100000
set_option maxHeartbeats 8000000
namespace Mine
section
theorem pv_R (w : World) {mean : ExcName → Option Value} {mg mb : Str → Option Value} {A : Around} {base : Heap} {l : List Env} {s : Shared} {R : Result → Shared → Prop} {n size : Int} {t u : Tok} (G : Gr w mean mg mb 358 190 A base l s)
  (hn0 : 0 ≤ n) (hn1 : n < 4611686018427387904) (hl : size < leastOf n)
  (hR : ∀ e dx od h' tk, IsQ od → FlyD base s.heap l e 31 dx od h' → R (.error (.ref e)) { s with heap := h', toks := tk }) :
  codeAny (model PySem.Challenge.rw_no0060_01.row.prog w) A (.call (.ref 83) ⟨[.int n t, .int size u], []⟩) R s := by
  have hfill : (Mine.hd.heap_1 w.params).In s.heap → PySem.Challenge.rw_no0060_01 = PySem.Challenge.rw_no0060_01 := by k_fill; intro _; rfl
  clear hfill
  refine' enterP G (by decide) ?ho ?hcd ?hbind ?hloc ?_ ?c2 ?c3 ?c4 ?c5; (case ho => k_is); (case hcd => k_is); (case hbind => exact BindsTo.of_eq rfl); (case c5 => decide); (case hloc => exact locs rfl); (case c2 => exact rfl); (case c3 => exact rfl); (case c4 => exact rfl); k_whole; intro L' h₁ F N B X T; (try dsimp only); (try k_lift B); (try k_fold)
  (repeat' (first | (k_unfold; (try dsimp only)) | (k_end; wrow_close) | ((with_reducible show wpAny _ _ (call (Value.ref 31) _) _ _ _); first | (with_reducible ((rename Fr _ _ _ _ => F3); (refine q3_c (G.push B F3 (by decide) (by decide)) fun e dx t h' tk od hod NX => ?_))) | ((rename Fr _ _ _ _ => F3); (refine q3_c (G.push B F3 (by decide) (by decide)) fun e dx t h' tk od hod NX => ?_))) | ((with_reducible show wpAny _ _ (exec (Stmt.Raise (some (Expr.Call (Expr.Name _ _) _ _ _)) none _) _) _ _ _); first | (with_reducible ((refine Raise_K (K := Mine.hd.heap_1 w.params) (by assumption) (by with_unfolding_all rfl) q_is ?_))) | ((refine Raise_K (K := Mine.hd.heap_1 w.params) (by assumption) (by with_unfolding_all rfl) q_is ?_))) | ((with_reducible show wpAny _ _ (call (Value.ref 76) _) _ _ _); first | (with_reducible ((rename Fr _ _ _ _ => F3); (rename News _ _ _ _ => N3); (refine wpAny_call (vs_c w (G.push B F3 (by decide) (by decide)) hn0 hn1 fun tb h' tk hk hz => ?_)); (have F4 := F3.keeps hk); (have N4 := N3.grown hk); clear F3 N3; (try dsimp only))) | ((rename Fr _ _ _ _ => F3); (rename News _ _ _ _ => N3); (refine wpAny_call (vs_c w (G.push B F3 (by decide) (by decide)) hn0 hn1 fun tb h' tk hk hz => ?_)); (have F4 := F3.keeps hk); (have N4 := N3.grown hk); clear F3 N3; (try dsimp only))) | walk1 | (dsimp only; walk1) | (leave1; (try dsimp only)) | fail "no step"))
  exact ⟨_, _, _, rfl, X.keeps fun x o e => NX.keep x o (F3.keep x o e), NX.there, leave_newD B NX F3 fun h'' FD => hR _ _ _ _ _ hod FD⟩
end
end Mine
end

section
open PySem PySem.W PySem.Spec PySem.Calls PyProof.Rows
set_option maxRecDepth 100000
set_option maxHeartbeats 8000000
namespace Mine
theorem vs_R0 (w : World) {mean : ExcName → Option Value} {mg mb : Str → Option Value} {A : Around} {base : Heap} {l : List Env} {s : Shared} {R : Result → Shared → Prop} {n : Int} {t : Tok} (G : Gr w mean mg mb 359 195 A base l s)
  (hn : n < 0)
  (hR : ∀ e dx od h' tk, IsQ od → FlyD base s.heap l e 31 dx od h' → R (.error (.ref e)) { s with heap := h', toks := tk }) :
  codeAny (model PySem.Challenge.rw_no0060_01.row.prog w) A (.call (.ref 76) ⟨[.int n t], []⟩) R s := by
  have hfill : (Mine.hd.heap_1 w.params).In s.heap → PySem.Challenge.rw_no0060_01 = PySem.Challenge.rw_no0060_01 := by k_fill; intro _; rfl
  clear hfill
  refine' enterP G (by decide) ?ho ?hcd ?hbind ?hloc ?_ ?c2 ?c3 ?c4 ?c5; (case ho => k_is); (case hcd => k_is); (case hbind => exact BindsTo.of_eq rfl); (case c5 => decide); (case hloc => exact locs rfl); (case c2 => exact rfl); (case c3 => exact rfl); (case c4 => exact rfl); k_whole; intro L' h₁ F N B X T; (try dsimp only); (try k_lift B); (try k_fold)
  (repeat' (first | (k_unfold; (try dsimp only)) | (k_end; wrow_close) | ((with_reducible show wpAny _ _ (exec (Stmt.For ..) _) _ _ _); first | (with_reducible ((rename Fr _ _ _ _ => lF'); (with_unfolding_all refine' For_turnsG lF' ?g ?_; (case g => exact rfl); k_whole))) | ((rename Fr _ _ _ _ => lF'); (with_unfolding_all refine' For_turnsG lF' ?g ?_; (case g => exact rfl); k_whole))) | ((with_reducible show wpAny _ _ (call (Value.ref 31) _) _ _ _); first | (with_reducible ((rename Fr _ _ _ _ => F3); first | (refine q1_c (G.push B F3 (by decide) (by decide)) fun e dx t h' tk od hod NX => ?_) | (refine q2_c (G.push B F3 (by decide) (by decide)) fun e dx t h' tk od hod NX => ?_) | (refine q3_c (G.push B F3 (by decide) (by decide)) fun e dx t h' tk od hod NX => ?_))) | ((rename Fr _ _ _ _ => F3); first | (refine q1_c (G.push B F3 (by decide) (by decide)) fun e dx t h' tk od hod NX => ?_) | (refine q2_c (G.push B F3 (by decide) (by decide)) fun e dx t h' tk od hod NX => ?_) | (refine q3_c (G.push B F3 (by decide) (by decide)) fun e dx t h' tk od hod NX => ?_))) | ((with_reducible show wpAny _ _ (exec (Stmt.Raise (some (Expr.Call (Expr.Name _ _) _ _ _)) none _) _) _ _ _); first | (with_reducible ((refine Raise_K (K := Mine.hd.heap_1 w.params) (by assumption) (by with_unfolding_all rfl) q_is ?_))) | ((refine Raise_K (K := Mine.hd.heap_1 w.params) (by assumption) (by with_unfolding_all rfl) q_is ?_))) | walk1 | (dsimp only; walk1) | (leave1; (try dsimp only)) | fail "no step"))
  exact ⟨_, _, _, rfl, X.keeps fun x o e => NX.keep x o (F3.keep x o e), NX.there, leave_newD B NX F3 fun h'' FD => hR _ _ _ _ _ hod FD⟩
theorem vs_R1 (w : World) {mean : ExcName → Option Value} {mg mb : Str → Option Value} {A : Around} {base : Heap} {l : List Env} {s : Shared} {R : Result → Shared → Prop} {n : Int} {t : Tok} (G : Gr w mean mg mb 359 195 A base l s)
  (hn : 4611686018427387904 ≤ n) (h1 : ¬ n < 1 * 2 ^ ((8:Int) * 1 - 2).toNat) (h2 : ¬ n < 1 * 2 ^ ((8:Int) * 2 - 2).toNat) (h4 : ¬ n < 1 * 2 ^ ((8:Int) * 4 - 2).toNat) (h8 : ¬ n < 1 * 2 ^ ((8:Int) * 8 - 2).toNat)
  (hR : ∀ e dx od h' tk, IsQ od → FlyD base s.heap l e 31 dx od h' → R (.error (.ref e)) { s with heap := h', toks := tk }) :
  codeAny (model PySem.Challenge.rw_no0060_01.row.prog w) A (.call (.ref 76) ⟨[.int n t], []⟩) R s := by
  have hfill : (Mine.hd.heap_1 w.params).In s.heap → PySem.Challenge.rw_no0060_01 = PySem.Challenge.rw_no0060_01 := by k_fill; intro _; rfl
  clear hfill
  refine' enterP G (by decide) ?ho ?hcd ?hbind ?hloc ?_ ?c2 ?c3 ?c4 ?c5; (case ho => k_is); (case hcd => k_is); (case hbind => exact BindsTo.of_eq rfl); (case c5 => decide); (case hloc => exact locs rfl); (case c2 => exact rfl); (case c3 => exact rfl); (case c4 => exact rfl); k_whole; intro L' h₁ F N B X T; (try dsimp only); (try k_lift B); (try k_fold)
  (repeat' (first | (k_unfold; (try dsimp only)) | (k_end; wrow_close) | ((with_reducible show wpAny _ _ (exec (Stmt.For ..) _) _ _ _); first | (with_reducible ((rename Fr _ _ _ _ => lF'); (with_unfolding_all refine' For_turnsG lF' ?g ?_; (case g => exact rfl); k_whole))) | ((rename Fr _ _ _ _ => lF'); (with_unfolding_all refine' For_turnsG lF' ?g ?_; (case g => exact rfl); k_whole))) | ((with_reducible show wpAny _ _ (call (Value.ref 31) _) _ _ _); first | (with_reducible ((rename Fr _ _ _ _ => F3); first | (refine q1_c (G.push B F3 (by decide) (by decide)) fun e dx t h' tk od hod NX => ?_) | (refine q2_c (G.push B F3 (by decide) (by decide)) fun e dx t h' tk od hod NX => ?_) | (refine q3_c (G.push B F3 (by decide) (by decide)) fun e dx t h' tk od hod NX => ?_))) | ((rename Fr _ _ _ _ => F3); first | (refine q1_c (G.push B F3 (by decide) (by decide)) fun e dx t h' tk od hod NX => ?_) | (refine q2_c (G.push B F3 (by decide) (by decide)) fun e dx t h' tk od hod NX => ?_) | (refine q3_c (G.push B F3 (by decide) (by decide)) fun e dx t h' tk od hod NX => ?_))) | ((with_reducible show wpAny _ _ (exec (Stmt.Raise (some (Expr.Call (Expr.Name _ _) _ _ _)) none _) _) _ _ _); first | (with_reducible ((refine Raise_K (K := Mine.hd.heap_1 w.params) (by assumption) (by with_unfolding_all rfl) q_is ?_))) | ((refine Raise_K (K := Mine.hd.heap_1 w.params) (by assumption) (by with_unfolding_all rfl) q_is ?_))) | walk1 | (dsimp only; walk1) | (leave1; (try dsimp only)) | fail "no step"))
  exact ⟨_, _, _, rfl, X.keeps fun x o e => NX.keep x o (F3.keep x o e), NX.there, leave_newD B NX F3 fun h'' FD => hR _ _ _ _ _ hod FD⟩
theorem vs_R (w : World) {mean : ExcName → Option Value} {mg mb : Str → Option Value} {A : Around} {base : Heap} {l : List Env} {s : Shared} {R : Result → Shared → Prop} {n : Int} {t : Tok} (G : Gr w mean mg mb 359 195 A base l s)
  (hn : n < 0 ∨ 4611686018427387904 ≤ n)
  (hR : ∀ e dx od h' tk, IsQ od → FlyD base s.heap l e 31 dx od h' → R (.error (.ref e)) { s with heap := h', toks := tk }) :
  codeAny (model PySem.Challenge.rw_no0060_01.row.prog w) A (.call (.ref 76) ⟨[.int n t], []⟩) R s := by
  rcases hn with hn | hn
  · exact vs_R0 w G hn hR
  · exact vs_R1 w G hn (by rw [p1]; omega) (by rw [p2]; omega) (by rw [p4]; omega) (by rw [p8]; omega) hR
theorem pvn_R (w : World) {mean : ExcName → Option Value} {mg mb : Str → Option Value} {A : Around} {base : Heap} {l : List Env} {s : Shared} {R : Result → Shared → Prop} {n : Int} {t : Tok} (G : Gr w mean mg mb 358 190 A base l s)
  (hn : n < 0 ∨ 4611686018427387904 ≤ n)
  (hR : ∀ e dx od h' tk, IsQ od → FlyD base s.heap l e 31 dx od h' → R (.error (.ref e)) { s with heap := h', toks := tk }) :
  codeAny (model PySem.Challenge.rw_no0060_01.row.prog w) A (.call (.ref 83) ⟨[.int n t, .none], []⟩) R s := by
  have hfill : (Mine.hd.heap_1 w.params).In s.heap → PySem.Challenge.rw_no0060_01 = PySem.Challenge.rw_no0060_01 := by k_fill; intro _; rfl
  clear hfill
  refine' enterP G (by decide) ?ho ?hcd ?hbind ?hloc ?_ ?c2 ?c3 ?c4 ?c5; (case ho => k_is); (case hcd => k_is); (case hbind => exact BindsTo.of_eq rfl); (case c5 => decide); (case hloc => exact locs rfl); (case c2 => exact rfl); (case c3 => exact rfl); (case c4 => exact rfl); k_whole; intro L' h₁ F N B X T; (try dsimp only); (try k_lift B); (try k_fold)
  (repeat' (first | (k_unfold; (try dsimp only)) | (k_end; wrow_close) | ((with_reducible show wpAny _ _ (call (Value.ref 76) _) _ _ _); first | (with_reducible ((rename Fr _ _ _ _ => F3); (rename News _ _ _ _ => N3); (refine wpAny_call (vs_R w (G.push B F3 (by decide) (by decide)) hn fun e dx od h' tk hod FD => ?_)); (try dsimp only))) | ((rename Fr _ _ _ _ => F3); (rename News _ _ _ _ => N3); (refine wpAny_call (vs_R w (G.push B F3 (by decide) (by decide)) hn fun e dx od h' tk hod FD => ?_)); (try dsimp only))) | ((with_reducible show wpAny _ _ (exec (Stmt.For ..) _) _ _ _); first | (with_reducible ((rename Fr _ _ _ _ => lF'); (with_unfolding_all refine' For_turnsG lF' ?g ?_; (case g => exact rfl); k_whole))) | ((rename Fr _ _ _ _ => lF'); (with_unfolding_all refine' For_turnsG lF' ?g ?_; (case g => exact rfl); k_whole))) | ((with_reducible show wpAny _ _ (call (Value.ref 31) _) _ _ _); first | (with_reducible ((rename Fr _ _ _ _ => F3); first | (refine q1_c (G.push B F3 (by decide) (by decide)) fun e dx t h' tk od hod NX => ?_) | (refine q2_c (G.push B F3 (by decide) (by decide)) fun e dx t h' tk od hod NX => ?_) | (refine q3_c (G.push B F3 (by decide) (by decide)) fun e dx t h' tk od hod NX => ?_))) | ((rename Fr _ _ _ _ => F3); first | (refine q1_c (G.push B F3 (by decide) (by decide)) fun e dx t h' tk od hod NX => ?_) | (refine q2_c (G.push B F3 (by decide) (by decide)) fun e dx t h' tk od hod NX => ?_) | (refine q3_c (G.push B F3 (by decide) (by decide)) fun e dx t h' tk od hod NX => ?_))) | ((with_reducible show wpAny _ _ (exec (Stmt.Raise (some (Expr.Call (Expr.Name _ _) _ _ _)) none _) _) _ _ _); first | (with_reducible ((refine Raise_K (K := Mine.hd.heap_1 w.params) (by assumption) (by with_unfolding_all rfl) q_is ?_))) | ((refine Raise_K (K := Mine.hd.heap_1 w.params) (by assumption) (by with_unfolding_all rfl) q_is ?_))) | walk1 | (dsimp only; walk1) | (leave1; (try dsimp only)) | fail "no step"))
  exact leave_onD B F3 FD fun h'' FD' => hR _ _ _ _ _ hod FD'
theorem pv3_R (w : World) {mean : ExcName → Option Value} {mg mb : Str → Option Value} {A : Around} {base : Heap} {l : List Env} {s : Shared} {R : Result → Shared → Prop} {t u : Tok} (G : Gr w mean mg mb 358 190 A base l s)
  (hR : ∀ e dx od h' tk, IsQ od → FlyD base s.heap l e 31 dx od h' → R (.error (.ref e)) { s with heap := h', toks := tk }) :
  codeAny (model PySem.Challenge.rw_no0060_01.row.prog w) A (.call (.ref 83) ⟨[.int 5 t, .int 3 u], []⟩) R s := by
  have hfill : (Mine.hd.heap_1 w.params).In s.heap → PySem.Challenge.rw_no0060_01 = PySem.Challenge.rw_no0060_01 := by k_fill; intro _; rfl
  clear hfill
  refine' enterP G (by decide) ?ho ?hcd ?hbind ?hloc ?_ ?c2 ?c3 ?c4 ?c5; (case ho => k_is); (case hcd => k_is); (case hbind => exact BindsTo.of_eq rfl); (case c5 => decide); (case hloc => exact locs rfl); (case c2 => exact rfl); (case c3 => exact rfl); (case c4 => exact rfl); k_whole; intro L' h₁ F N B X T; (try dsimp only); (try k_lift B); (try k_fold)
  (repeat' (first | (k_unfold; (try dsimp only)) | (k_end; wrow_close) | ((with_reducible show wpAny _ _ (compareOp _ _ (Value.ref 55)) _ _ _); first | (with_reducible ((rename Fr _ _ _ _ => F3); refine notIn_sizes (X.keeps F3.keep) ?_)) | ((rename Fr _ _ _ _ => F3); refine notIn_sizes (X.keeps F3.keep) ?_)) | ((with_reducible show wpAny _ _ (call (Value.ref 76) _) _ _ _); first | (with_reducible ((rename Fr _ _ _ _ => F3); (rename News _ _ _ _ => N3); (refine wpAny_call (vs_c w (G.push B F3 (by decide) (by decide)) (by decide) (by decide) fun tb h' tk hk hz => ?_)); (have F4 := F3.keeps hk); (have N4 := N3.grown hk); clear F3 N3; (try dsimp only))) | ((rename Fr _ _ _ _ => F3); (rename News _ _ _ _ => N3); (refine wpAny_call (vs_c w (G.push B F3 (by decide) (by decide)) (by decide) (by decide) fun tb h' tk hk hz => ?_)); (have F4 := F3.keeps hk); (have N4 := N3.grown hk); clear F3 N3; (try dsimp only))) | ((with_reducible show wpAny _ _ (call (Value.ref 76) _) _ _ _); first | (with_reducible ((rename Fr _ _ _ _ => F3); (rename News _ _ _ _ => N3); (refine wpAny_call (vs_R w (G.push B F3 (by decide) (by decide)) hn fun e dx od h' tk hod FD => ?_)); (try dsimp only))) | ((rename Fr _ _ _ _ => F3); (rename News _ _ _ _ => N3); (refine wpAny_call (vs_R w (G.push B F3 (by decide) (by decide)) hn fun e dx od h' tk hod FD => ?_)); (try dsimp only))) | ((with_reducible show wpAny _ _ (exec (Stmt.For ..) _) _ _ _); first | (with_reducible ((rename Fr _ _ _ _ => lF'); (with_unfolding_all refine' For_turnsG lF' ?g ?_; (case g => exact rfl); k_whole))) | ((rename Fr _ _ _ _ => lF'); (with_unfolding_all refine' For_turnsG lF' ?g ?_; (case g => exact rfl); k_whole))) | ((with_reducible show wpAny _ _ (call (Value.ref 31) _) _ _ _); first | (with_reducible ((rename Fr _ _ _ _ => F3); first | (refine q1_c (G.push B F3 (by decide) (by decide)) fun e dx t h' tk od hod NX => ?_) | (refine q2_c (G.push B F3 (by decide) (by decide)) fun e dx t h' tk od hod NX => ?_) | (refine q3_c (G.push B F3 (by decide) (by decide)) fun e dx t h' tk od hod NX => ?_))) | ((rename Fr _ _ _ _ => F3); first | (refine q1_c (G.push B F3 (by decide) (by decide)) fun e dx t h' tk od hod NX => ?_) | (refine q2_c (G.push B F3 (by decide) (by decide)) fun e dx t h' tk od hod NX => ?_) | (refine q3_c (G.push B F3 (by decide) (by decide)) fun e dx t h' tk od hod NX => ?_))) | ((with_reducible show wpAny _ _ (exec (Stmt.Raise (some (Expr.Call (Expr.Name _ _) _ _ _)) none _) _) _ _ _); first | (with_reducible ((refine Raise_K (K := Mine.hd.heap_1 w.params) (by assumption) (by with_unfolding_all rfl) q_is ?_))) | ((refine Raise_K (K := Mine.hd.heap_1 w.params) (by assumption) (by with_unfolding_all rfl) q_is ?_))) | walk1 | (dsimp only; walk1) | (leave1; (try dsimp only)) | fail "no step"))
  exact ⟨_, _, _, rfl, X.keeps fun x o e => NX.keep x o (F3.keep x o e), NX.there, leave_newD B NX F3 fun h'' FD => hR _ _ _ _ _ hod FD⟩
theorem pw_R (w : World) {mean : ExcName → Option Value} {mg mb : Str → Option Value} {A : Around} {base : Heap} {l : List Env} {s : Shared} {R : Result → Shared → Prop} {n size : Int} {t u : Tok} (G : Gr w mean mg mb 358 190 A base l s)
  (hs1 : 1 ≤ size) (hs2 : size ≤ 8) (hn0 : 0 ≤ n) (hz : n.fdiv (2 ^ (8 * size).toNat) ≠ 0)
  (hR : ∀ e dx od h' tk, IsQ od → FlyD base s.heap l e 31 dx od h' → R (.error (.ref e)) { s with heap := h', toks := tk }) :
  codeAny (model PySem.Challenge.rw_no0060_01.row.prog w) A (.call (.ref 62) ⟨[.int n t, .int size u], []⟩) R s := by
  have hfill : (Mine.hd.heap_1 w.params).In s.heap → PySem.Challenge.rw_no0060_01 = PySem.Challenge.rw_no0060_01 := by k_fill; intro _; rfl
  clear hfill
  refine' enterP G (by decide) ?ho ?hcd ?hbind ?hloc ?_ ?c2 ?c3 ?c4 ?c5; (case ho => k_is); (case hcd => k_is); (case hbind => exact BindsTo.of_eq rfl); (case c5 => decide); (case hloc => exact locs rfl); (case c2 => exact rfl); (case c3 => exact rfl); (case c4 => exact rfl); k_whole; intro L' h₁ F N B X T; (try dsimp only); (try k_lift B); (try k_fold)
  (repeat' (first | (k_unfold; (try dsimp only)) | (k_end; wrow_close) | ((with_reducible show wpAny _ _ (compareOp _ _ (Value.ref 55)) _ _ _); first | (with_reducible ((rename Fr _ _ _ _ => F3); refine notIn_sizes (X.keeps F3.keep) ?_)) | ((rename Fr _ _ _ _ => F3); refine notIn_sizes (X.keeps F3.keep) ?_)) | ((with_reducible show wpAny _ _ (call (Value.ref 76) _) _ _ _); first | (with_reducible ((rename Fr _ _ _ _ => F3); (rename News _ _ _ _ => N3); (refine wpAny_call (vs_c w (G.push B F3 (by decide) (by decide)) (by decide) (by decide) fun tb h' tk hk hz => ?_)); (have F4 := F3.keeps hk); (have N4 := N3.grown hk); clear F3 N3; (try dsimp only))) | ((rename Fr _ _ _ _ => F3); (rename News _ _ _ _ => N3); (refine wpAny_call (vs_c w (G.push B F3 (by decide) (by decide)) (by decide) (by decide) fun tb h' tk hk hz => ?_)); (have F4 := F3.keeps hk); (have N4 := N3.grown hk); clear F3 N3; (try dsimp only))) | ((with_reducible show wpAny _ _ (call (Value.ref 76) _) _ _ _); first | (with_reducible ((rename Fr _ _ _ _ => F3); (rename News _ _ _ _ => N3); (refine wpAny_call (vs_R w (G.push B F3 (by decide) (by decide)) hn fun e dx od h' tk hod FD => ?_)); (try dsimp only))) | ((rename Fr _ _ _ _ => F3); (rename News _ _ _ _ => N3); (refine wpAny_call (vs_R w (G.push B F3 (by decide) (by decide)) hn fun e dx od h' tk hod FD => ?_)); (try dsimp only))) | ((with_reducible show wpAny _ _ (exec (Stmt.For ..) _) _ _ _); first | (with_reducible ((rename Fr _ _ _ _ => lF'); (with_unfolding_all refine' For_turnsG lF' ?g ?_; (case g => exact rfl); k_whole))) | ((rename Fr _ _ _ _ => lF'); (with_unfolding_all refine' For_turnsG lF' ?g ?_; (case g => exact rfl); k_whole))) | ((with_reducible show wpAny _ _ (call (Value.ref 31) _) _ _ _); first | (with_reducible ((rename Fr _ _ _ _ => F3); first | (refine q1_c (G.push B F3 (by decide) (by decide)) fun e dx t h' tk od hod NX => ?_) | (refine q2_c (G.push B F3 (by decide) (by decide)) fun e dx t h' tk od hod NX => ?_) | (refine q3_c (G.push B F3 (by decide) (by decide)) fun e dx t h' tk od hod NX => ?_))) | ((rename Fr _ _ _ _ => F3); first | (refine q1_c (G.push B F3 (by decide) (by decide)) fun e dx t h' tk od hod NX => ?_) | (refine q2_c (G.push B F3 (by decide) (by decide)) fun e dx t h' tk od hod NX => ?_) | (refine q3_c (G.push B F3 (by decide) (by decide)) fun e dx t h' tk od hod NX => ?_))) | ((with_reducible show wpAny _ _ (exec (Stmt.Raise (some (Expr.Call (Expr.Name _ _) _ _ _)) none _) _) _ _ _); first | (with_reducible ((refine Raise_K (K := Mine.hd.heap_1 w.params) (by assumption) (by with_unfolding_all rfl) q_is ?_))) | ((refine Raise_K (K := Mine.hd.heap_1 w.params) (by assumption) (by with_unfolding_all rfl) q_is ?_))) | walk1 | (dsimp only; walk1) | (leave1; (try dsimp only)) | fail "no step"))
  · exact ⟨_, _, _, rfl, X.keeps fun x o e => NX.keep x o (F3.keep x o e), NX.there, leave_newD B NX F3 fun h'' FD => hR _ _ _ _ _ hod FD⟩
  · rename n.fdiv _ = 0 => hz'
    exact absurd hz' hz
end Mine
end

section
open PySem PySem.W PySem.Spec PySem.Calls PyProof.Rows
set_option maxRecDepth 100000
set_option maxHeartbeats 8000000
namespace Mine
theorem clip_nat {n : Nat} {k : Int} (h0 : 0 ≤ k) (h1 : k ≤ n) : clipAt n k = k.toNat := by
  unfold clipAt
  first
    | (simp only []; omega)
    | (split <;> omega)
    | omega
theorem gw_R (w : World) {mean : ExcName → Option Value} {mg mb : Str → Option Value} {A : Around} {base : Heap} {l : List Env} {s : Shared} {R : Result → Shared → Prop} {b : Array UInt8} {ks : List Int} {at_ size : Int} {t u v : Tok} (G : Gr w mean mg mb 359 195 A base l s)
  (hb : KBw.bInts b = ks) (hlen : ks.length ≤ 100) (ha : 0 ≤ at_) (hs : 0 ≤ size) (hs2 : size ≤ 8) (hlt : (ks.length : Int) < at_ + size)
  (hR : ∀ e dx od h' tk, FlyD base s.heap l e 51 dx od h' → R (.error (.ref e)) { s with heap := h', toks := tk }) :
  codeAny (model PySem.Challenge.rw_no0060_01.row.prog w) A (.call (.ref 69) ⟨[.bytes b v, .int at_ t, .int size u], []⟩) R s := by
  have hfill : (Mine.hd.heap_1 w.params).In s.heap → PySem.Challenge.rw_no0060_01 = PySem.Challenge.rw_no0060_01 := by k_fill; intro _; rfl
  clear hfill
  refine' enterP G (by decide) ?ho ?hcd ?hbind ?hloc ?_ ?c2 ?c3 ?c4 ?c5; (case ho => k_is); (case hcd => k_is); (case hbind => exact BindsTo.of_eq rfl); (case c5 => decide); (case hloc => exact locs rfl); (case c2 => exact rfl); (case c3 => exact rfl); (case c4 => exact rfl); k_whole; intro L' h₁ F N B X T; (try dsimp only); (try k_lift B); (try k_fold)
  (repeat' (first | (k_unfold; (try dsimp only)) | (k_end; wrow_close) | ((with_reducible show wpAny _ _ (exec (Stmt.For ..) _) _ _ _); first | (with_reducible ((rename Fr _ _ _ _ => lF'); (with_unfolding_all refine' For_invVF lF' ?k1 ?k2 ?_; (case k1 => exact rfl); (case k2 => exact rfl); k_whole))) | ((rename Fr _ _ _ _ => lF'); (with_unfolding_all refine' For_invVF lF' ?k1 ?k2 ?_; (case k1 => exact rfl); (case k2 => exact rfl); k_whole))) | ((with_reducible show wpAny _ _ (call (Value.ref 51) _) _ _ _); first | (with_reducible ((rename Fr _ _ _ _ => F3); (refine s1_c (G.push B F3 (by decide) (by decide)) fun e dx t h' tk od NX => ?_))) | ((rename Fr _ _ _ _ => F3); (refine s1_c (G.push B F3 (by decide) (by decide)) fun e dx t h' tk od NX => ?_))) | ((with_reducible show wpAny _ _ (exec (Stmt.Raise (some (Expr.Call (Expr.Name ("Short" : Str) _) _ _ _)) none _) _) _ _ _); first | (with_reducible ((refine Raise_K (K := Mine.hd.heap_1 w.params) (by assumption) (by with_unfolding_all rfl) s_is ?_))) | ((refine Raise_K (K := Mine.hd.heap_1 w.params) (by assumption) (by with_unfolding_all rfl) s_is ?_))) | walk1 | (dsimp only; walk1) | (leave1; (try dsimp only)) | fail "no step"))
  exact ⟨_, _, _, rfl, X.keeps fun x o e => NX.keep x o (F3.keep x o e), NX.there, leave_newD B NX F3 fun h'' FD => hR _ _ _ _ _ FD⟩
theorem gw_c (w : World) {mean : ExcName → Option Value} {mg mb : Str → Option Value} {A : Around} {base : Heap} {l : List Env} {s : Shared} {R : Result → Shared → Prop} {b : Array UInt8} {ks : List Int} {at_ size : Int} {t u v : Tok} (G : Gr w mean mg mb 359 195 A base l s)
  (hb : KBw.bInts b = ks) (hlen : ks.length ≤ 100) (ha : 0 ≤ at_) (hs : 0 ≤ size) (hs2 : size ≤ 8) (hlt : at_ + size ≤ (ks.length : Int))
  (hR : ∀ tb h' tk, (∀ x o, s.heap.get? x = some o → h'.get? x = some o) → s.heap.objs.size ≤ h'.objs.size → R (.ok (.ret (.int (bv ((ks.drop at_.toNat).take size.toNat)) tb))) { s with heap := h', toks := tk }) :
  codeAny (model PySem.Challenge.rw_no0060_01.row.prog w) A (.call (.ref 69) ⟨[.bytes b v, .int at_ t, .int size u], []⟩) R s := by
  have hfill : (Mine.hd.heap_1 w.params).In s.heap → PySem.Challenge.rw_no0060_01 = PySem.Challenge.rw_no0060_01 := by k_fill; intro _; rfl
  clear hfill
  refine' enterP G (by decide) ?ho ?hcd ?hbind ?hloc ?_ ?c2 ?c3 ?c4 ?c5; (case ho => k_is); (case hcd => k_is); (case hbind => exact BindsTo.of_eq rfl); (case c5 => decide); (case hloc => exact locs rfl); (case c2 => exact rfl); (case c3 => exact rfl); (case c4 => exact rfl); k_whole; intro L' h₁ F N B X T; (try dsimp only); (try k_lift B); (try k_fold)
  (repeat' (first | (k_unfold; (try dsimp only)) | (k_end; wrow_close) | ((with_reducible show wpAny _ _ (exec (Stmt.For ..) _) _ _ _); first | (with_reducible ((rename Fr _ _ _ _ => lF'); (with_unfolding_all refine' For_invVF lF' ?k1 ?k2 ?_; (case k1 => exact rfl); (case k2 => exact rfl); k_whole))) | ((rename Fr _ _ _ _ => lF'); (with_unfolding_all refine' For_invVF lF' ?k1 ?k2 ?_; (case k1 => exact rfl); (case k2 => exact rfl); k_whole))) | ((with_reducible show wpAny _ _ (call (Value.ref 51) _) _ _ _); first | (with_reducible ((rename Fr _ _ _ _ => F3); (refine s1_c (G.push B F3 (by decide) (by decide)) fun e dx t h' tk od NX => ?_))) | ((rename Fr _ _ _ _ => F3); (refine s1_c (G.push B F3 (by decide) (by decide)) fun e dx t h' tk od NX => ?_))) | ((with_reducible show wpAny _ _ (exec (Stmt.Raise (some (Expr.Call (Expr.Name ("Short" : Str) _) _ _ _)) none _) _) _ _ _); first | (with_reducible ((refine Raise_K (K := Mine.hd.heap_1 w.params) (by assumption) (by with_unfolding_all rfl) s_is ?_))) | ((refine Raise_K (K := Mine.hd.heap_1 w.params) (by assumption) (by with_unfolding_all rfl) s_is ?_))) | walk1 | (dsimp only; walk1) | (leave1; (try dsimp only)) | fail "no step"))
  rw [clip_nat (by omega) (by omega), clip_nat ha (by omega), show (at_ + size).toNat - at_.toNat = size.toNat by omega]
  rename Fr _ _ _ _ => F4
  exact hR _ _ _ F4.keep (Nat.le_of_lt (Nat.lt_of_le_of_lt F4.above F4.ns.lt))
end Mine
end

section
open PySem PySem.W PySem.Spec PySem.Calls PyProof.Rows
set_option maxRecDepth 100000
set_option maxHeartbeats 8000000
namespace Mine
noncomputable def szOf (j : Int) : Int := if j = 0 then 1 else if j = 1 then 2 else if j = 2 then 4 else 8
theorem sz_in (j : Int) : szOf j = 1 ∨ szOf j = 2 ∨ szOf j = 4 ∨ szOf j = 8 := by
  unfold szOf
  split
  · exact .inl rfl
  · split
    · exact .inr (.inl rfl)
    · split
      · exact .inr (.inr (.inl rfl))
      · exact .inr (.inr (.inr rfl))
theorem size_item {w : World} {prog : Program} {A : Around} {E : Value → Shared → Prop} {s : Shared} {value slice : PySem.Expr} {j sz : Int} {t : Tok} {Q : Value → Shared → Prop} (hsz : szOf j = sz) (X : (Mine.hd.heap_1 w.params).In s.heap) (h0 : 0 ≤ j) (h1 : j < 4) (h : ∀ t, Q (.int sz t) s)
    (hs : subscripted slice false (.ref 55) (.int j t) = operate [.ref 55, .int j t] (getItem (.ref 55) (.int j t)) := by with_unfolding_all rfl) (hg : ∀ r, letTemporaryGo value (.ref 55) r = pure () := by intro _; with_unfolding_all rfl) :
    wpAny (model prog w) A (subscriptTail value slice (.ref 55) (.int j t)) Q E s := by
  subst hsz
  have ht : IsTup s.heap 55 #[.int 1 255, .int 2 256, .int 4 257, .int 8 258] := ⟨_, X _ _ (sizes_at _), rfl, _, rfl⟩
  have hc : j = 0 ∨ j = 1 ∨ j = 2 ∨ j = 3 := by omega
  rcases hc with rfl | rfl | rfl | rfl
  · exact item_tuple (j := 0) ht (by decide) (by decide) (by rfl) (by rfl) (h _) hs hg 
  · exact item_tuple (j := 1) ht (by decide) (by decide) (by rfl) (by rfl) (h _) hs hg
  · exact item_tuple (j := 2) ht (by decide) (by decide) (by rfl) (by rfl) (h _) hs hg
  · exact item_tuple (j := 3) ht (by decide) (by decide) (by rfl) (by rfl) (h _) hs hg
theorem fd_lo {x d : Int} (hd : d = 64) (h : 0 ≤ x) : 0 ≤ x.fdiv d := by
  subst hd
  exact Int.fdiv_nonneg h (by decide)
theorem fd_hi {x d : Int} (hd : d = 64) (h : 0 ≤ x) (h1 : x < 256) : x.fdiv d < 4 := by
  subst hd
  rw [Int.fdiv_eq_ediv_of_nonneg _ (by decide)]
  omega
theorem gv_R1 (w : World) {mean : ExcName → Option Value} {mg mb : Str → Option Value} {A : Around} {base : Heap} {l : List Env} {s : Shared} {R : Result → Shared → Prop} {b : Array UInt8} {ks : List Int} {at_ : Int} {t v : Tok} (G : Gr w mean mg mb 358 190 A base l s)
  (hb : KBw.bInts b = ks) (hlen : ks.length ≤ 100) (ha : 0 ≤ at_) (hge : (ks.length : Int) ≤ at_)
  (hR : ∀ e dx od h' tk, FlyD base s.heap l e 51 dx od h' → R (.error (.ref e)) { s with heap := h', toks := tk }) :
  codeAny (model PySem.Challenge.rw_no0060_01.row.prog w) A (.call (.ref 90) ⟨[.bytes b v, .int at_ t], []⟩) R s := by
  have hfill : (Mine.hd.heap_1 w.params).In s.heap → PySem.Challenge.rw_no0060_01 = PySem.Challenge.rw_no0060_01 := by k_fill; intro _; rfl
  clear hfill
  refine' enterP G (by decide) ?ho ?hcd ?hbind ?hloc ?_ ?c2 ?c3 ?c4 ?c5; (case ho => k_is); (case hcd => k_is); (case hbind => exact BindsTo.of_eq rfl); (case c5 => decide); (case hloc => exact locs rfl); (case c2 => exact rfl); (case c3 => exact rfl); (case c4 => exact rfl); k_whole; intro L' h₁ F N B X T; (try dsimp only); (try k_lift B); (try k_fold)
  (repeat' (first | (k_unfold; (try dsimp only)) | (k_end; wrow_close) | ((with_reducible show wpAny _ _ (call (Value.ref 69) _) _ _ _); first | (with_reducible ((rename Fr _ _ _ _ => F3); (rename News _ _ _ _ => N3); (refine wpAny_call (gw_R w (G.push B F3 (by decide) (by decide)) hb hlen ha hsz0 hsz8 hcut fun e dx od h' tk FD => ?_)); (try dsimp only))) | ((rename Fr _ _ _ _ => F3); (rename News _ _ _ _ => N3); (refine wpAny_call (gw_R w (G.push B F3 (by decide) (by decide)) hb hlen ha hsz0 hsz8 hcut fun e dx od h' tk FD => ?_)); (try dsimp only))) | ((with_reducible show wpAny _ _ (call (Value.ref 69) _) _ _ _); first | (with_reducible ((rename Fr _ _ _ _ => F3); (rename News _ _ _ _ => N3); (refine wpAny_call (gw_c w (G.push B F3 (by decide) (by decide)) hb hlen ha hsz0 hsz8 hfit fun tb h' tk hk hz => ?_)); (have F4 := F3.keeps hk); (have N4 := N3.grown hk); clear F3 N3; (try dsimp only))) | ((rename Fr _ _ _ _ => F3); (rename News _ _ _ _ => N3); (refine wpAny_call (gw_c w (G.push B F3 (by decide) (by decide)) hb hlen ha hsz0 hsz8 hfit fun tb h' tk hk hz => ?_)); (have F4 := F3.keeps hk); (have N4 := N3.grown hk); clear F3 N3; (try dsimp only))) | ((with_reducible show wpAny _ _ (subscriptTail _ _ (Value.ref 55) (Value.int _ _)) _ _ _); first | (with_reducible ((rename Fr _ _ _ _ => F3); (with_unfolding_all refine size_item hsz (X.keeps F3.keep) (fd_lo (by decide) (by assumption)) (fd_hi (by decide) (by assumption) (by assumption)) (fun t => ?_)))) | ((rename Fr _ _ _ _ => F3); (with_unfolding_all refine size_item hsz (X.keeps F3.keep) (fd_lo (by decide) (by assumption)) (fd_hi (by decide) (by assumption) (by assumption)) (fun t => ?_)))) | ((with_reducible show wpAny _ _ (call (Value.ref 51) _) _ _ _); first | (with_reducible ((rename Fr _ _ _ _ => F3); (refine s1_c (G.push B F3 (by decide) (by decide)) fun e dx t h' tk od NX => ?_))) | ((rename Fr _ _ _ _ => F3); (refine s1_c (G.push B F3 (by decide) (by decide)) fun e dx t h' tk od NX => ?_))) | ((with_reducible show wpAny _ _ (exec (Stmt.Raise (some (Expr.Call (Expr.Name ("Short" : Str) _) _ _ _)) none _) _) _ _ _); first | (with_reducible ((refine Raise_K (K := Mine.hd.heap_1 w.params) (by assumption) (by with_unfolding_all rfl) s_is ?_))) | ((refine Raise_K (K := Mine.hd.heap_1 w.params) (by assumption) (by with_unfolding_all rfl) s_is ?_))) | walk1 | (dsimp only; walk1) | (leave1; (try dsimp only)) | fail "no step"))
  exact ⟨_, _, _, rfl, X.keeps fun x o e => NX.keep x o (F3.keep x o e), NX.there, leave_newD B NX F3 fun h'' FD => hR _ _ _ _ _ FD⟩
theorem gv_R2 (w : World) {mean : ExcName → Option Value} {mg mb : Str → Option Value} {A : Around} {base : Heap} {l : List Env} {s : Shared} {R : Result → Shared → Prop} {b : Array UInt8} {ks : List Int} {at_ sz : Int} {t v : Tok} (G : Gr w mean mg mb 358 190 A base l s)
  (hb : KBw.bInts b = ks) (hlen : ks.length ≤ 100) (ha : 0 ≤ at_) (hlt : at_ < (ks.length : Int)) (hsz : szOf ((ks.getD at_.toNat 0).fdiv (2 ^ Int.toNat 6)) = sz) (hcut : (ks.length : Int) < at_ + sz)
  (hR : ∀ e dx od h' tk, FlyD base s.heap l e 51 dx od h' → R (.error (.ref e)) { s with heap := h', toks := tk }) :
  codeAny (model PySem.Challenge.rw_no0060_01.row.prog w) A (.call (.ref 90) ⟨[.bytes b v, .int at_ t], []⟩) R s := by
  have hfill : (Mine.hd.heap_1 w.params).In s.heap → PySem.Challenge.rw_no0060_01 = PySem.Challenge.rw_no0060_01 := by k_fill; intro _; rfl
  clear hfill
  have hsi := hsz ▸ sz_in ((ks.getD at_.toNat 0).fdiv (2 ^ Int.toNat 6))
  have hsz0 : 0 ≤ sz := by omega
  have hsz8 : sz ≤ 8 := by omega
  refine' enterP G (by decide) ?ho ?hcd ?hbind ?hloc ?_ ?c2 ?c3 ?c4 ?c5; (case ho => k_is); (case hcd => k_is); (case hbind => exact BindsTo.of_eq rfl); (case c5 => decide); (case hloc => exact locs rfl); (case c2 => exact rfl); (case c3 => exact rfl); (case c4 => exact rfl); k_whole; intro L' h₁ F N B X T; (try dsimp only); (try k_lift B); (try k_fold)
  (repeat' (first | (k_unfold; (try dsimp only)) | (k_end; wrow_close) | ((with_reducible show wpAny _ _ (call (Value.ref 69) _) _ _ _); first | (with_reducible ((rename Fr _ _ _ _ => F3); (rename News _ _ _ _ => N3); (refine wpAny_call (gw_R w (G.push B F3 (by decide) (by decide)) hb hlen ha hsz0 hsz8 hcut fun e dx od h' tk FD => ?_)); (try dsimp only))) | ((rename Fr _ _ _ _ => F3); (rename News _ _ _ _ => N3); (refine wpAny_call (gw_R w (G.push B F3 (by decide) (by decide)) hb hlen ha hsz0 hsz8 hcut fun e dx od h' tk FD => ?_)); (try dsimp only))) | ((with_reducible show wpAny _ _ (call (Value.ref 69) _) _ _ _); first | (with_reducible ((rename Fr _ _ _ _ => F3); (rename News _ _ _ _ => N3); (refine wpAny_call (gw_c w (G.push B F3 (by decide) (by decide)) hb hlen ha hsz0 hsz8 hfit fun tb h' tk hk hz => ?_)); (have F4 := F3.keeps hk); (have N4 := N3.grown hk); clear F3 N3; (try dsimp only))) | ((rename Fr _ _ _ _ => F3); (rename News _ _ _ _ => N3); (refine wpAny_call (gw_c w (G.push B F3 (by decide) (by decide)) hb hlen ha hsz0 hsz8 hfit fun tb h' tk hk hz => ?_)); (have F4 := F3.keeps hk); (have N4 := N3.grown hk); clear F3 N3; (try dsimp only))) | ((with_reducible show wpAny _ _ (subscriptTail _ _ (Value.ref 55) (Value.int _ _)) _ _ _); first | (with_reducible ((rename Fr _ _ _ _ => F3); (with_unfolding_all refine size_item hsz (X.keeps F3.keep) (fd_lo (by decide) (by assumption)) (fd_hi (by decide) (by assumption) (by assumption)) (fun t => ?_)))) | ((rename Fr _ _ _ _ => F3); (with_unfolding_all refine size_item hsz (X.keeps F3.keep) (fd_lo (by decide) (by assumption)) (fd_hi (by decide) (by assumption) (by assumption)) (fun t => ?_)))) | ((with_reducible show wpAny _ _ (call (Value.ref 51) _) _ _ _); first | (with_reducible ((rename Fr _ _ _ _ => F3); (refine s1_c (G.push B F3 (by decide) (by decide)) fun e dx t h' tk od NX => ?_))) | ((rename Fr _ _ _ _ => F3); (refine s1_c (G.push B F3 (by decide) (by decide)) fun e dx t h' tk od NX => ?_))) | ((with_reducible show wpAny _ _ (exec (Stmt.Raise (some (Expr.Call (Expr.Name ("Short" : Str) _) _ _ _)) none _) _) _ _ _); first | (with_reducible ((refine Raise_K (K := Mine.hd.heap_1 w.params) (by assumption) (by with_unfolding_all rfl) s_is ?_))) | ((refine Raise_K (K := Mine.hd.heap_1 w.params) (by assumption) (by with_unfolding_all rfl) s_is ?_))) | walk1 | (dsimp only; walk1) | (leave1; (try dsimp only)) | fail "no step"))
  exact leave_onD B F3 FD fun h'' FD' => hR _ _ _ _ _ FD'
theorem gv_c (w : World) {mean : ExcName → Option Value} {mg mb : Str → Option Value} {A : Around} {base : Heap} {l : List Env} {s : Shared} {R : Result → Shared → Prop} {b : Array UInt8} {ks : List Int} {at_ sz : Int} {t v : Tok} (G : Gr w mean mg mb 358 190 A base l s)
  (hb : KBw.bInts b = ks) (hlen : ks.length ≤ 100) (ha : 0 ≤ at_) (hlt : at_ < (ks.length : Int)) (hsz : szOf ((ks.getD at_.toNat 0).fdiv (2 ^ Int.toNat 6)) = sz) (hfit : at_ + sz ≤ (ks.length : Int)) (hb0 : ∀ x ∈ ks, 0 ≤ x)
  (hR : ∀ ax nx t1 t2 h' tk, (∀ x o, s.heap.get? x = some o → h'.get? x = some o) → s.heap.objs.size ≤ h'.objs.size → s.heap.get? ax = none → h'.get? ax = some { cls := .type "tuple", data := .seq #[.int (bv ((ks.drop at_.toNat).take sz.toNat) % 2 ^ (8 * sz - 2).toNat) t1, .int (at_ + sz) t2] nx } → R (.ok (.ret (.ref ax))) { s with heap := h', toks := tk }) :
  codeAny (model PySem.Challenge.rw_no0060_01.row.prog w) A (.call (.ref 90) ⟨[.bytes b v, .int at_ t], []⟩) R s := by
  have hfill : (Mine.hd.heap_1 w.params).In s.heap → PySem.Challenge.rw_no0060_01 = PySem.Challenge.rw_no0060_01 := by k_fill; intro _; rfl
  clear hfill
  have hsi := hsz ▸ sz_in ((ks.getD at_.toNat 0).fdiv (2 ^ Int.toNat 6))
  have hsz0 : 0 ≤ sz := by omega
  have hsz8 : sz ≤ 8 := by omega
  refine' enterP G (by decide) ?ho ?hcd ?hbind ?hloc ?_ ?c2 ?c3 ?c4 ?c5; (case ho => k_is); (case hcd => k_is); (case hbind => exact BindsTo.of_eq rfl); (case c5 => decide); (case hloc => exact locs rfl); (case c2 => exact rfl); (case c3 => exact rfl); (case c4 => exact rfl); k_whole; intro L' h₁ F N B X T; (try dsimp only); (try k_lift B); (try k_fold)
  (repeat' (first | (k_unfold; (try dsimp only)) | (k_end; wrow_close) | ((with_reducible show wpAny _ _ (call (Value.ref 69) _) _ _ _); first | (with_reducible ((rename Fr _ _ _ _ => F3); (rename News _ _ _ _ => N3); (refine wpAny_call (gw_R w (G.push B F3 (by decide) (by decide)) hb hlen ha hsz0 hsz8 hcut fun e dx od h' tk FD => ?_)); (try dsimp only))) | ((rename Fr _ _ _ _ => F3); (rename News _ _ _ _ => N3); (refine wpAny_call (gw_R w (G.push B F3 (by decide) (by decide)) hb hlen ha hsz0 hsz8 hcut fun e dx od h' tk FD => ?_)); (try dsimp only))) | ((with_reducible show wpAny _ _ (call (Value.ref 69) _) _ _ _); first | (with_reducible ((rename Fr _ _ _ _ => F3); (rename News _ _ _ _ => N3); (refine wpAny_call (gw_c w (G.push B F3 (by decide) (by decide)) hb hlen ha hsz0 hsz8 hfit fun tb h' tk hk hz => ?_)); (have F4 := F3.keeps hk); (have N4 := N3.grown hk); clear F3 N3; (try dsimp only))) | ((rename Fr _ _ _ _ => F3); (rename News _ _ _ _ => N3); (refine wpAny_call (gw_c w (G.push B F3 (by decide) (by decide)) hb hlen ha hsz0 hsz8 hfit fun tb h' tk hk hz => ?_)); (have F4 := F3.keeps hk); (have N4 := N3.grown hk); clear F3 N3; (try dsimp only))) | ((with_reducible show wpAny _ _ (subscriptTail _ _ (Value.ref 55) (Value.int _ _)) _ _ _); first | (with_reducible ((rename Fr _ _ _ _ => F3); (with_unfolding_all refine size_item hsz (X.keeps F3.keep) (fd_lo (by decide) (by assumption)) (fd_hi (by decide) (by assumption) (by assumption)) (fun t => ?_)))) | ((rename Fr _ _ _ _ => F3); (with_unfolding_all refine size_item hsz (X.keeps F3.keep) (fd_lo (by decide) (by assumption)) (fd_hi (by decide) (by assumption) (by assumption)) (fun t => ?_)))) | ((with_reducible show wpAny _ _ (call (Value.ref 51) _) _ _ _); first | (with_reducible ((rename Fr _ _ _ _ => F3); (refine s1_c (G.push B F3 (by decide) (by decide)) fun e dx t h' tk od NX => ?_))) | ((rename Fr _ _ _ _ => F3); (refine s1_c (G.push B F3 (by decide) (by decide)) fun e dx t h' tk od NX => ?_))) | ((with_reducible show wpAny _ _ (exec (Stmt.Raise (some (Expr.Call (Expr.Name ("Short" : Str) _) _ _ _)) none _) _) _ _ _); first | (with_reducible ((refine Raise_K (K := Mine.hd.heap_1 w.params) (by assumption) (by with_unfolding_all rfl) s_is ?_))) | ((refine Raise_K (K := Mine.hd.heap_1 w.params) (by assumption) (by with_unfolding_all rfl) s_is ?_))) | walk1 | (dsimp only; walk1) | (leave1; (try dsimp only)) | fail "no step"))
  rename Fr _ _ _ _ => F5
  rename News _ _ _ [_] => N5
  have z := N5 _ (.head _)
  rw [bitAnd_mask (bv_nonneg fun x hx => hb0 x (List.mem_of_mem_drop (List.mem_of_mem_take hx)))] at z
  exact hR _ _ _ _ _ _ F5.keep (Nat.le_of_lt (Nat.lt_of_le_of_lt F5.above F5.ns.lt)) z.2.2 z.1
end Mine
end

section
open PySem PySem.W PySem.Spec PySem.Calls PyProof.Rows
set_option maxRecDepth 100000
namespace Mine
section
variable {M : Model} {A A₀ : Around} {E : Value → Shared → Prop} {s' : Shared} {base g G h : Heap} {outer : List Env} {L a e C dx : Addr} {od : Obj} {m : Str → Option Value} {name : Str} {scope : Scope} {cd : Value} {Q : Unit → Shared → Prop}
theorem looks_D (hA : A.frames = some (envOf name scope L a cd :: outer)) (R : FlyD base G (envOf name scope L a cd :: outer) e C dx od s'.heap)
    (hQ : ∀ h', FlyD base G (envOf name scope L a cd :: outer) e C dx od h' → Q () { s' with heap := h' }) :
    wpAny M A (noteFrame (.ref e) (envOf name scope L a cd)) (fun _ s₂ => wpAny M A (setFlight (.ref e) none) Q E s₂) E s' := by
  obtain ⟨⟨t1, t2, t3⟩, n1, n2, ⟨oe, hoe, hod⟩, B, t, b1, b2, b3, b4⟩ := R
  refine wpAny_mono (wpAny_CK (CK_noteFrame _ _) (wpAny_looks_onW (Q := fun _ s'' => ∃ h', s'' = { s' with heap := h' } ∧ Heap.HeldW B (envOf name scope L a cd :: outer) e (.ref C) (.ref t) L h' ∧ s'.heap.UpToSlots h') hA rfl b4 fun h' x1 x2 => ⟨h', rfl, x1, x2⟩)) (fun _ s'' y => ?_) fun _ _ y => y
  obtain ⟨⟨h', rfl, x1, x2⟩, kd⟩ := y
  refine wpAny_mono (wpAny_CK (CK_setFlight _ _) (wpAny_landsW (Q := fun _ s'' => ∃ h'', s'' = { s' with heap := h'' } ∧ Heap.FlyingW B (envOf name scope L a cd :: outer) e (.ref C) (.ref t) h'' ∧ h'.UpToSlots h'') x1 fun h'' y1 y2 => ⟨h'', rfl, y1, y2⟩)) (fun _ s'' y => ?_) fun _ _ y => y
  obtain ⟨⟨h'', rfl, y1, y2⟩, kd2⟩ := y
  obtain ⟨oe', hoe', hod'⟩ := kd.1 _ _ hoe
  obtain ⟨oe'', hoe'', hod''⟩ := kd2.1 _ _ hoe'
  refine hQ h'' ⟨⟨(t1.trans x2).trans y2, fun b o q nm => y1.1 _ _ (b2 b o q nm), ?_⟩, n1, n2, ⟨oe'', hoe'', (hod''.trans hod').trans hod⟩, B, t, b1, b2, b3, y1⟩
  exact Nat.le_trans t3 (Nat.le_trans kd.2 kd2.2)
theorem lands_D (R : FlyD base G (envOf name scope L a cd :: outer) e C dx od s'.heap)
    (hQ : ∀ h', FlyD base G (envOf name scope L a cd :: outer) e C dx od h' → Q () { s' with heap := h' }) : wpAny M A (setFlight (.ref e) none) Q E s' := by
  obtain ⟨⟨t1, t2, t3⟩, n1, n2, ⟨oe, hoe, hod⟩, B, t, b1, b2, b3, b4⟩ := R
  refine wpAny_mono (wpAny_CK (CK_setFlight _ _) (lands_againW (Q := fun _ s'' => ∃ h', s'' = { s' with heap := h' } ∧ Heap.FlyingW B (envOf name scope L a cd :: outer) e (.ref C) (.ref t) h' ∧ s'.heap.UpToSlots h') b4 fun h' x1 x2 => ⟨h', rfl, x1, x2⟩)) (fun _ s'' y => ?_) fun _ _ y => y
  obtain ⟨⟨h', rfl, x1, x2⟩, kd⟩ := y
  obtain ⟨oe', hoe', hod'⟩ := kd.1 _ _ hoe
  exact hQ h' ⟨⟨t1.trans x2, fun b o q nm => x1.1 _ _ (b2 b o q nm), Nat.le_trans t3 kd.2⟩, n1, n2, ⟨oe', hoe', hod'.trans hod⟩, B, t, b1, b2, b3, x1⟩
/-- the ground of a frame that an exception has come to -/
theorem ground_D (K : Below A₀ base outer g) (F : Fr g L G m) (R : FlyD base G (envOf name scope L a cd :: outer) e C dx od h) :
    ∃ g' oe ws, KtsTurn (outer.filterMap (·.frame)) g g' ∧ Fr g' L h m ∧ Below A₀ base outer g' ∧ oe.cls = .ref C ∧ oe.dict = some dx ∧ oe.data = .fields ws ∧ News g' L h [(e, oe), (dx, od)] := by
  obtain ⟨⟨t1, t2, t3⟩, n1, n2, ⟨oe, hoe, hod⟩, B, t, b1, b2, b3, b4⟩ := R
  obtain ⟨g', T, F', K'⟩ := kts_ground K F b2 b4.1 t1
  obtain ⟨oe', ws, hoe', hoec, hoed, _⟩ := b4.first
  rw [hoe] at hoe'
  cases hoe'
  obtain ⟨oL, es, ep, hL, _⟩ := F.ns
  refine ⟨g', oe, ws, T, F', K', hoec, hod, hoed, fun p hp => ?_⟩
  have ne1 : e ≠ L := fun z => by
    rw [← z, n1] at hL
    cases hL
  have ne2 : dx ≠ L := fun z => by
    rw [← z, n2] at hL
    cases hL
  rcases List.mem_cons.mp hp with rfl | hp
  · exact ⟨hoe, ne1, T.none_ _ (kts_none F.keep n1)⟩
  · rw [List.mem_singleton.mp hp]
    exact ⟨b4.1 _ _ b3, ne2, T.none_ _ (kts_none F.keep n2)⟩
theorem KtsTurn.turns {l : List Env} {g g' h : Heap} (T : KtsTurn (l.filterMap (·.frame)) g g') (F : Fr g' L h m) : Turns l g h := by
  refine ⟨fun b o e _ => ?_, fun b o e nm => F.keep _ _ (T.other b o e nm), ?_⟩
  · obtain ⟨sl, hs⟩ := T.up e
    exact ⟨sl, F.keep _ _ hs⟩
  · exact Nat.le_trans (Nat.le_of_eq T.size.symm) (Nat.le_of_lt (Nat.lt_of_le_of_lt F.above F.ns.lt))
end
end Mine
end

section
open PySem PySem.W PySem.Spec PySem.Calls PyProof.Rows PySem.W.X
set_option maxRecDepth 100000
set_option maxHeartbeats 8000000
namespace Mine
set_option hygiene false in
local macro_rules | `(tactic| x_close) => `(tactic| exact hQ _)
theorem getcode_x {prg : Program} (w : World) (hv : Option Value) (outer : List Env) (gd : Option (List Code)) (s : Shared) (KX : (Mine.K2 w.params).In s.heap) (e dx : Addr) (ws : Array Value) (sl : Array (Option Value)) (h1 h2 h3 : Int) (k1 k2 k3 t t1 : Tok) (v2 v3 : Value)
   (he : s.heap.get? e = some ⟨.ref 31, some dx, .fields ws, sl⟩)
   (hd : s.heap.get? dx = some ⟨.type "dict", none, .dict #[⟨h1, .str (Str.ofString "code") k1, .int 1 t1⟩, ⟨h2, .str (Str.ofString "frame_type") k2, v2⟩, ⟨h3, .str (Str.ofString "text") k3, v3⟩] 3, #[]⟩) (Q : Value → Shared → Prop) (E : Value → Shared → Prop)
   (hQ : ∀ tk, Q (.int 1 t1) { s with toks := tk }) :
   wpAny (model prg w) ({ handled := hv, depth := 400, frames := some outer, guards := gd, units := 300 } : Around) (call (.builtin "BaseException.__getattribute__") [.ref e, .str (Str.ofString "code") t]) Q E s := by
  x_run
end Mine
end

section
open PySem PySem.W PySem.Spec PySem.Calls PyProof.Rows
set_option maxRecDepth 100000
namespace Mine
theorem Gr.K2at {w : World} {mean : ExcName → Option Value} {mg mb : Str → Option Value} {A : Around} {base h : Heap} {l : List Env} {s : Shared} {D U : Nat} (G : Gr w mean mg mb D U A base l s) (st : base.StaysIn h) : (Mine.K2 w.params).In h := fun a o e => by
  unfold Mine.K2 at e
  rw [List.lookup_cons] at e
  cases q : a == 0 with
  | true =>
    rw [q] at e
    have ha : a = 0 := eq_of_beq q
    subst ha
    exact st _ _ (G.b0.trans e)
  | false => rw [q] at e; exact st _ _ (G.K a o e)
theorem ga31 (P : Params) : findIn (Mine.hd.heap_1 P) (.ref 31) (Str.ofString "__getattribute__") = some (some (.builtin "BaseException.__getattribute__")) := by kernel_rfl
theorem gh31 (P : Params) : findIn (Mine.hd.heap_1 P) (.ref 31) (Str.ofString "__getattr__") = some none := by kernel_rfl
theorem bga_bind (self : Value) : bindSpecial (.builtin "BaseException.__getattribute__") self = pure (.builtin "BaseException.__getattribute__", [self]) := by
  have hop : withoutEnding? "BaseException.__getattribute__" "#opaque" = none := by decide +kernel
  have hdat : withoutEnding? "BaseException.__getattribute__" "#data" = none := by decide +kernel
  have hk : builtinKind "BaseException.__getattribute__" = some .slot := by decide +kernel
  simp only [bindSpecial, typeOf, builtinType, hop, hdat, hk]; rfl
theorem h_use {α : Type} {M : Model} {t : Sem α} {Q : α → Shared → Prop} {E : Value → Shared → Prop} {A : Around} {l : List Env} {s : Shared} (hd : A.depth ≤ 400) (hu : A.units ≤ 300) (hf : A.frames = some l)
    (h : wpAny M ({ handled := A.handled, depth := 400, frames := some l, guards := A.guards, units := 300 } : Around) t Q E s) : wpAny M A t Q E s := fun Γ p hΓ =>
  h Γ p ⟨hΓ.1, Nat.le_trans hΓ.2.1 hd, fun q hq' => hΓ.2.2.1 q (hf.trans hq'), fun g hg' => hΓ.2.2.2.1 g hg', Nat.le_trans hΓ.2.2.2.2 hu⟩
theorem getcode_c (w : World) {A : Around} {l : List Env} {s : Shared} {Q : Value → Shared → Prop} {E : Value → Shared → Prop} {e dx : Addr} {oe od : Obj} {ws : Array Value} {b : Bool} (hd : A.depth ≤ 400) (hu : A.units ≤ 300) (hf : A.frames = some l) (KX : (Mine.K2 w.params).In s.heap) (X : (Mine.hd.heap_1 w.params).In s.heap)
   (he : s.heap.get? e = some oe) (hc : oe.cls = .ref 31) (hdx : oe.dict = some dx) (hda : oe.data = .fields ws) (hdo : s.heap.get? dx = some od) (hq : IsQ od) (hQ : ∀ t1 tk, Q (.int 1 t1) { s with toks := tk }) :
   wpAny (model PySem.Challenge.rw_no0060_01.row.prog w) A (getAttr (.ref e) (Str.ofString "code") b) Q E s := by
  obtain ⟨c, d, dt, sl⟩ := oe
  dsimp only at hc hdx hda
  subst hc hdx hda
  obtain ⟨h1, h2, h3, k1, k2, k3, t1, v2, v3, rfl⟩ := hq
  have L1 := looks_findIn (M := model PySem.Challenge.rw_no0060_01.row.prog w) X (ga31 w.params)
  have L2 := looks_findIn (M := model PySem.Challenge.rw_no0060_01.row.prog w) X (gh31 w.params)
  unfold getAttr getAttrBy
  refine wpAny_bind (wpAny_mkText (wpAny_holding (wpAny_bind ?_)))
  have hT : wpAny (model PySem.Challenge.rw_no0060_01.row.prog w) A (typeOf (.ref e)) (fun a s' => a = .ref 31 ∧ s' = { s with toks := s.toks + 1 }) E { s with toks := s.toks + 1 } := by
    unfold typeOf
    exact wpAny_bind (wpAny_load he (wpAny_pure ⟨rfl, rfl⟩))
  refine wpAny_mono hT (fun a s' h => ?_) fun _ _ x => x
  obtain ⟨rfl, rfl⟩ := h
  refine wpAny_bind (L1.at ?_)
  show wpAny _ _ (getAttrByItsOwn (.ref e) (.str (Str.ofString "code") s.toks) (.ref 31) (.builtin "BaseException.__getattribute__") true b) _ _ _
  unfold getAttrByItsOwn
  refine wpAny_bind ?_
  show wpAny _ _ (typeLookup (.ref 31) (Str.ofString "__getattr__")) _ _ _
  refine L2.at ?_
  refine wpAny_bind (wpAny_attempt (wpAny_holding ?_))
  have hcg : callGetattribute (.ref e) (.str (Str.ofString "code") s.toks) (.builtin "BaseException.__getattribute__") b = call (.builtin "BaseException.__getattribute__") [.ref e, .str (Str.ofString "code") s.toks] := by
    unfold callGetattribute boundAndCalled
    rw [bga_bind]
    cases b <;> rfl
  rw [hcg]
  refine h_use hd hu hf ?_
  refine getcode_x w A.handled l A.guards { s with toks := s.toks + 1 } KX e dx ws sl h1 h2 h3 k1 k2 k3 s.toks t1 v2 v3 he hdo _ _ fun tk => ?_
  exact wpAny_pure (hQ _ _)
end Mine
end

section
open PySem PySem.W PySem.Spec PySem.Calls PyProof.Rows
set_option maxRecDepth 100000
set_option maxHeartbeats 8000000
namespace Mine
theorem turn_none {fs : List Addr} {g g' : Heap} (T : KtsTurn fs g g') {b : Addr} (h : g'.get? b = none) : g.get? b = none := by
  cases q : g.get? b with
  | none => rfl
  | some o =>
    obtain ⟨sl, hs⟩ := T.up q
    rw [h] at hs
    cases hs
theorem refused_Q (w : World) {mean : ExcName → Option Value} {mg mb : Str → Option Value} {A : Around} {base : Heap} {l : List Env} {s : Shared} {R : Result → Shared → Prop} {f : Addr} {fo : Obj} {fd : FuncData} (G : Gr w mean mg mb 354 178 A base l s)
  (hf : s.heap.get? f = some fo) (hfd : fo.data = .func fd)
  (hwork : ∀ A' l' s' (R' : Result → Shared → Prop), Gr w mean mg mb 355 181 A' base l' s' → (∀ b o, s.heap.get? b = some o → s'.heap.get? b = some o) →
    (∀ e dx od h' tk, IsQ od → FlyD base s'.heap l' e 31 dx od h' → R' (.error (.ref e)) { s' with heap := h', toks := tk }) → codeAny (model PySem.Challenge.rw_no0060_01.row.prog w) A' (.call (.ref f) ⟨[], []⟩) R' s')
  (hR : ∀ a nx t1 t2 h' tk, Turns l s.heap h' → s.heap.get? a = none → h'.get? a = some { cls := .type "tuple", data := .seq #[.str (Str.ofString "quic") t1, .int 1 t2] nx } → R (.ok (.ret (.ref a))) { s with heap := h', toks := tk }) :
  codeAny (model PySem.Challenge.rw_no0060_01.row.prog w) A (.call (.ref 172) ⟨[.ref f], []⟩) R s := by
  have hfill : (Mine.hd.heap_1 w.params).In s.heap → PySem.Challenge.rw_no0060_01 = PySem.Challenge.rw_no0060_01 := by k_fill; intro _; rfl
  clear hfill
  refine' enterP G (by decide) ?ho ?hcd ?hbind ?hloc ?_ ?c2 ?c3 ?c4 ?c5; (case ho => k_is); (case hcd => k_is); (case hbind => exact BindsTo.of_eq rfl); (case c5 => decide); (case hloc => exact locs rfl); (case c2 => exact rfl); (case c3 => exact rfl); (case c4 => exact rfl); k_whole; intro L' h₁ F N B X T; (try dsimp only); (try k_lift B); (try k_fold)
  (repeat' (first | (k_unfold; (try dsimp only)) | (k_end; wrow_close) | ((with_reducible show wpAny _ _ (call (Value.ref _) _) _ _ _); first | (with_reducible ((rename Fr _ _ _ _ => F3); (refine wpAny_call (hwork _ _ _ _ (G.push B F3 (by decide) (by decide)) F3.keep fun e dx od h' tk hod FD => ?_)); (try dsimp only))) | ((rename Fr _ _ _ _ => F3); (refine wpAny_call (hwork _ _ _ _ (G.push B F3 (by decide) (by decide)) F3.keep fun e dx od h' tk hod FD => ?_)); (try dsimp only))) | ((with_reducible show wpAny _ _ (callWith _ (Value.ref _) _ _ _) _ _ _); first | (with_reducible ((rename Fr _ _ _ _ => F3); (with_unfolding_all refine callWith_function (o := fo) (fd := fd) (args := []) (PyProof.Rows.evalArgs_nil3 ⟨⟨F3.keep _ _ hf, hfd⟩, ?_⟩)))) | ((rename Fr _ _ _ _ => F3); (with_unfolding_all refine callWith_function (o := fo) (fd := fd) (args := []) (PyProof.Rows.evalArgs_nil3 ⟨⟨F3.keep _ _ hf, hfd⟩, ?_⟩)))) | ((with_reducible show wpAny _ _ (exec (Stmt.Try ..) _) _ _ _); first | (with_reducible (refine wpAny_Try_except ?_)) | (refine wpAny_Try_except ?_)) | walk1 | (dsimp only; walk1) | (leave1; (try dsimp only)) | fail "no step"))
  refine looks_D (Around.frames_deeper B.stack) FD fun h2 FD2 => ?_
  obtain ⟨g2, oe, ws, T2, F2, B2, hc2, hdx2, hda2, N2⟩ := ground_D B F3 FD2
  obtain ⟨nm, q', N', bs, bm, hdct, sn, sub, ab, col, dd, k0, k1, k2, k3, k5, newId, hC, hbase, _⟩ := kts_cls (G.K.keeps B2.stays) q_is
  refine wpAny_handleBy_cons (codeAny_handlers_test (name_K F2 (G.K.keeps B2.stays) (topRead_of (G.top.keeps B2.stays)) (show nsIn (Mine.hd.heap_1 w.params) mainGlobals (Str.ofString "QuicError") = some (some (.ref 31)) by kernel_rfl) ?_ (by rfl) (by rfl) (by decide))) (by intro q; cases q)
  refine wpAny_excMatches_sub_self (F2.keep _ _ hC) (N2 _ (.head _)).1 hc2 hbase (codeAny_handlers_suite_as ?_)
  refine lands_D FD2 fun h3 FD3 => ?_
  obtain ⟨g3, oe3, ws3, T3, F3', B3, hc3, hdx3, hda3, N3⟩ := ground_D B F3 FD3
  refine stN F3' N3 (fun h4 F4 N4 => ?_) (by rfl) (by rfl)
  have X3 := G.K.keeps B3.stays
  have T3' := G.top.keeps B3.stays
  clear F3 F2 F3' N2 N3 FD FD2 FD3 N B B2 X T T2
  (repeat' (first | (k_unfold; (try dsimp only)) | (k_end; wrow_close) | ((with_reducible show wpAny _ _ (call (Value.ref _) _) _ _ _); first | (with_reducible ((rename Fr _ _ _ _ => F3); (refine wpAny_call (hwork _ _ _ _ (G.push B F3 (by decide) (by decide)) F3.keep fun e dx od h' tk hod FD => ?_)); (try dsimp only))) | ((rename Fr _ _ _ _ => F3); (refine wpAny_call (hwork _ _ _ _ (G.push B F3 (by decide) (by decide)) F3.keep fun e dx od h' tk hod FD => ?_)); (try dsimp only))) | ((with_reducible show wpAny _ _ (callWith _ (Value.ref _) _ _ _) _ _ _); first | (with_reducible ((rename Fr _ _ _ _ => F3); (with_unfolding_all refine callWith_function (o := fo) (fd := fd) (args := []) (PyProof.Rows.evalArgs_nil3 ⟨⟨F3.keep _ _ hf, hfd⟩, ?_⟩)))) | ((rename Fr _ _ _ _ => F3); (with_unfolding_all refine callWith_function (o := fo) (fd := fd) (args := []) (PyProof.Rows.evalArgs_nil3 ⟨⟨F3.keep _ _ hf, hfd⟩, ?_⟩)))) | ((with_reducible show wpAny _ _ (exec (Stmt.Try ..) _) _ _ _); first | (with_reducible (refine wpAny_Try_except ?_)) | (refine wpAny_Try_except ?_)) | walk1 | (dsimp only; walk1) | (leave1; (try dsimp only)) | fail "no step"))
  rename Fr _ _ _ _ => F5
  rename News _ _ _ _ => N5
  refine getcode_c w (l := _ :: l) (e := e) (by exact (by decide : 355 ≤ 400)) (by exact (by decide : 181 ≤ 300)) (Around.frames_deeper B3.stack) (G.K2at fun b o q => F5.keep _ _ (B3.stays _ _ q)) (X3.keeps F5.keep) (N5 _ (.head _)).1 hc3 hdx3 hda3 (N5 _ (.tail _ (.head _))).1 hod fun t1 tk => ?_
  (repeat' (first | (k_unfold; (try dsimp only)) | (k_end; wrow_close) | ((with_reducible show wpAny _ _ (call (Value.ref _) _) _ _ _); first | (with_reducible ((rename Fr _ _ _ _ => F3); (refine wpAny_call (hwork _ _ _ _ (G.push B F3 (by decide) (by decide)) F3.keep fun e dx od h' tk hod FD => ?_)); (try dsimp only))) | ((rename Fr _ _ _ _ => F3); (refine wpAny_call (hwork _ _ _ _ (G.push B F3 (by decide) (by decide)) F3.keep fun e dx od h' tk hod FD => ?_)); (try dsimp only))) | ((with_reducible show wpAny _ _ (callWith _ (Value.ref _) _ _ _) _ _ _); first | (with_reducible ((rename Fr _ _ _ _ => F3); (with_unfolding_all refine callWith_function (o := fo) (fd := fd) (args := []) (PyProof.Rows.evalArgs_nil3 ⟨⟨F3.keep _ _ hf, hfd⟩, ?_⟩)))) | ((rename Fr _ _ _ _ => F3); (with_unfolding_all refine callWith_function (o := fo) (fd := fd) (args := []) (PyProof.Rows.evalArgs_nil3 ⟨⟨F3.keep _ _ hf, hfd⟩, ?_⟩)))) | ((with_reducible show wpAny _ _ (exec (Stmt.Try ..) _) _ _ _); first | (with_reducible (refine wpAny_Try_except ?_)) | (refine wpAny_Try_except ?_)) | walk1 | (dsimp only; walk1) | (leave1; (try dsimp only)) | fail "no step"))
  rename Fr _ _ _ _ => F6
  rename News _ _ _ _ => N6
  refine name_goes_keeps F6 N6 ?_
  intro h' tk' F7 N7
  exact hR _ _ _ _ _ _ (KtsTurn.turns T3 F7) (turn_none T3 (N7 _ (.head _)).2.2) (N7 _ (.head _)).1
end Mine
end

section
open PySem PySem.W PySem.Spec PySem.Calls PyProof.Rows
set_option maxRecDepth 100000
set_option maxHeartbeats 8000000
namespace Mine
theorem s_no {w : World} : (match (Mine.hd.heap_1 w.params).lookup 51 with | some ⟨_, _, .cls cd, _⟩ => !cd.mro.contains (.ref 31) | _ => false) = true := by kernel_rfl
theorem kts_cls' {K : Frag} {h : Heap} {C : Addr} {T : String} {D : Value} (X : K.In h) (q : ktsIn K C T = true) (q2 : (match K.lookup C with | some ⟨_, _, .cls cd, _⟩ => !cd.mro.contains D | _ => false) = true) : ∃ nm qn N bs bm hdct sn sub ab col dd k0 k1 k2 k3 k5 newId,
    h.get? C = some (excClassObj nm qn C N bs bm hdct sn sub ab col dd k0 k1 k2 k3 k5 newId) ∧ bm.contains (.type "BaseException") = true ∧ bm.contains (.type T) = true ∧ (Value.ref C :: bm).contains D = false := by
  obtain ⟨nm, qn, ns, bs, bm, hd, sn, sub, ab, col, dd, k0, k1, k2, k3, k5, n, ho, hb, ht⟩ := kts_look X q
  rw [ho] at q2
  exact ⟨nm, qn, ns, bs, bm, hd, sn, sub, ab, col, dd, k0, k1, k2, k3, k5, n, X _ _ ho, hb, ht, by simpa [excClassObj] using q2⟩
section
variable {M : Model} {A : Around} {E : Value → Shared → Prop}
variable {nm q : Str} {C N : Addr} {bs bm : List Value} {hdct : Bool} {sn : List Str} {sub : List Value} {ab : Bool} {col : Option Bool} {dd : Option Addr} {k0 k1 k2 k3 k5 : Option Value} {newId : String}
variable {nm' q' : Str} {C' N' : Addr} {bs' bm' : List Value} {hdct' : Bool} {sn' : List Str} {sub' : List Value} {ab' : Bool} {col' : Option Bool} {dd' : Option Addr} {k0' k1' k2' k3' k5' : Option Value} {newId' : String}
theorem excMatches_no {h : Heap} {g : Array GenState} {d : Drawn} {t : Nat} {os : OsState} {e : Addr} {oe : Obj} {Q : Bool → Shared → Prop}
    (hC : h.get? C = some (excClassObj nm q C N bs bm hdct sn sub ab col dd k0 k1 k2 k3 k5 newId)) (hC' : h.get? C' = some (excClassObj nm' q' C' N' bs' bm' hdct' sn' sub' ab' col' dd' k0' k1' k2' k3' k5' newId')) (he : h.get? e = some oe) (hcls : oe.cls = .ref C') (hbase : bm.contains (.type "BaseException") = true)
    (hno : (Value.ref C' :: bm').contains (.ref C) = false) (hq : Q false ⟨h, g, d, t, os⟩) : wpAny M A (excMatches (.ref e) (.ref C)) Q E ⟨h, g, d, t, os⟩ := by
  have hcB : (Value.ref C :: bm).contains (.type "BaseException") = true := by rw [List.contains_cons, hbase, Bool.or_true]
  have f := tc_notTuple
  unfold excMatches
  repeat (first | (with_reducible refine wpAny_loadPart_at he ?_; rw [hcls]) | with_reducible refine wpAny_loadPart_at hC ?_ | (with_reducible refine wpAny_isSubtype_exc hC ?_; rw [hcB]) | (with_reducible refine wpAny_isSubtype_exc hC' ?_; rw [hno]) | wp_step)
  exact hq
end
theorem refused_S (w : World) {mean : ExcName → Option Value} {mg mb : Str → Option Value} {A : Around} {base : Heap} {l : List Env} {s : Shared} {R : Result → Shared → Prop} {f : Addr} {fo : Obj} {fd : FuncData} (G : Gr w mean mg mb 354 178 A base l s)
  (hf : s.heap.get? f = some fo) (hfd : fo.data = .func fd)
  (hwork : ∀ A' l' s' (R' : Result → Shared → Prop), Gr w mean mg mb 355 181 A' base l' s' → (∀ b o, s.heap.get? b = some o → s'.heap.get? b = some o) →
    (∀ e dx od h' tk, FlyD base s'.heap l' e 51 dx od h' → R' (.error (.ref e)) { s' with heap := h', toks := tk }) → codeAny (model PySem.Challenge.rw_no0060_01.row.prog w) A' (.call (.ref f) ⟨[], []⟩) R' s')
  (hR : ∀ t h' tk, Turns l s.heap h' → R (.ok (.ret (.str (Str.ofString "short") t))) { s with heap := h', toks := tk }) :
  codeAny (model PySem.Challenge.rw_no0060_01.row.prog w) A (.call (.ref 172) ⟨[.ref f], []⟩) R s := by
  have hfill : (Mine.hd.heap_1 w.params).In s.heap → PySem.Challenge.rw_no0060_01 = PySem.Challenge.rw_no0060_01 := by k_fill; intro _; rfl
  clear hfill
  refine' enterP G (by decide) ?ho ?hcd ?hbind ?hloc ?_ ?c2 ?c3 ?c4 ?c5; (case ho => k_is); (case hcd => k_is); (case hbind => exact BindsTo.of_eq rfl); (case c5 => decide); (case hloc => exact locs rfl); (case c2 => exact rfl); (case c3 => exact rfl); (case c4 => exact rfl); k_whole; intro L' h₁ F N B X T; (try dsimp only); (try k_lift B); (try k_fold)
  (repeat' (first | (k_unfold; (try dsimp only)) | (k_end; wrow_close) | ((with_reducible show wpAny _ _ (call (Value.ref _) _) _ _ _); first | (with_reducible ((rename Fr _ _ _ _ => F3); (refine wpAny_call (hwork _ _ _ _ (G.push B F3 (by decide) (by decide)) F3.keep fun e dx od h' tk FD => ?_)); (try dsimp only))) | ((rename Fr _ _ _ _ => F3); (refine wpAny_call (hwork _ _ _ _ (G.push B F3 (by decide) (by decide)) F3.keep fun e dx od h' tk FD => ?_)); (try dsimp only))) | ((with_reducible show wpAny _ _ (callWith _ (Value.ref _) _ _ _) _ _ _); first | (with_reducible ((rename Fr _ _ _ _ => F3); (with_unfolding_all refine callWith_function (o := fo) (fd := fd) (args := []) (PyProof.Rows.evalArgs_nil3 ⟨⟨F3.keep _ _ hf, hfd⟩, ?_⟩)))) | ((rename Fr _ _ _ _ => F3); (with_unfolding_all refine callWith_function (o := fo) (fd := fd) (args := []) (PyProof.Rows.evalArgs_nil3 ⟨⟨F3.keep _ _ hf, hfd⟩, ?_⟩)))) | ((with_reducible show wpAny _ _ (exec (Stmt.Try ..) _) _ _ _); first | (with_reducible (refine wpAny_Try_except ?_)) | (refine wpAny_Try_except ?_)) | walk1 | (dsimp only; walk1) | (leave1; (try dsimp only)) | fail "no step"))
  refine looks_D (Around.frames_deeper B.stack) FD fun h2 FD2 => ?_
  obtain ⟨g2, oe, ws, T2, F2, B2, hc2, hdx2, hda2, N2⟩ := ground_D B F3 FD2
  obtain ⟨nm, q', N', bs, bm, hdct, sn, sub, ab, col, dd, k0, k1, k2, k3, k5, newId, hC, hbase, _⟩ := kts_cls (G.K.keeps B2.stays) q_is
  obtain ⟨nm', q'', N'', bs', bm', hdct', sn', sub', ab', col', dd', k0', k1', k2', k3', k5', newId', hC', hbase', _, hno⟩ := kts_cls' (D := .ref 31) (G.K.keeps B2.stays) s_is (s_no (w := w))
  refine wpAny_handleBy_cons (codeAny_handlers_test (name_K F2 (G.K.keeps B2.stays) (topRead_of (G.top.keeps B2.stays)) (show nsIn (Mine.hd.heap_1 w.params) mainGlobals (Str.ofString "QuicError") = some (some (.ref 31)) by kernel_rfl) ?_ (by rfl) (by rfl) (by decide))) (by intro q; cases q)
  refine excMatches_no (F2.keep _ _ hC) (F2.keep _ _ hC') (N2 _ (.head _)).1 hc2 hbase hno ?_
  refine wpAny_handleBy_cons (codeAny_handlers_test (name_K F2 (G.K.keeps B2.stays) (topRead_of (G.top.keeps B2.stays)) (show nsIn (Mine.hd.heap_1 w.params) mainGlobals (Str.ofString "Short") = some (some (.ref 51)) by kernel_rfl) ?_ (by rfl) (by rfl) (by decide))) (by intro q; cases q)
  refine wpAny_excMatches_sub_self (F2.keep _ _ hC') (N2 _ (.head _)).1 hc2 hbase' (codeAny_handlers_suite ?_)
  refine lands_D FD2 fun h3 FD3 => ?_
  obtain ⟨g3, oe3, ws3, T3, F3', B3, hc3, hdx3, hda3, N3⟩ := ground_D B F3 FD3
  have X3 := G.K.keeps B3.stays
  have T3' := G.top.keeps B3.stays
  clear F3 F2 N2 FD FD2 FD3 N B B2 X T T2
  (repeat' (first | (k_unfold; (try dsimp only)) | (k_end; wrow_close) | ((with_reducible show wpAny _ _ (call (Value.ref _) _) _ _ _); first | (with_reducible ((rename Fr _ _ _ _ => F3); (refine wpAny_call (hwork _ _ _ _ (G.push B F3 (by decide) (by decide)) F3.keep fun e dx od h' tk FD => ?_)); (try dsimp only))) | ((rename Fr _ _ _ _ => F3); (refine wpAny_call (hwork _ _ _ _ (G.push B F3 (by decide) (by decide)) F3.keep fun e dx od h' tk FD => ?_)); (try dsimp only))) | ((with_reducible show wpAny _ _ (callWith _ (Value.ref _) _ _ _) _ _ _); first | (with_reducible ((rename Fr _ _ _ _ => F3); (with_unfolding_all refine callWith_function (o := fo) (fd := fd) (args := []) (PyProof.Rows.evalArgs_nil3 ⟨⟨F3.keep _ _ hf, hfd⟩, ?_⟩)))) | ((rename Fr _ _ _ _ => F3); (with_unfolding_all refine callWith_function (o := fo) (fd := fd) (args := []) (PyProof.Rows.evalArgs_nil3 ⟨⟨F3.keep _ _ hf, hfd⟩, ?_⟩)))) | ((with_reducible show wpAny _ _ (exec (Stmt.Try ..) _) _ _ _); first | (with_reducible (refine wpAny_Try_except ?_)) | (refine wpAny_Try_except ?_)) | walk1 | (dsimp only; walk1) | (leave1; (try dsimp only)) | fail "no step"))
  rename Fr _ _ _ _ => F6
  exact hR _ _ _ (KtsTurn.turns T3 F6)
end Mine
end

section
open PySem PySem.W PySem.Spec PySem.Calls PyProof.Rows
set_option maxRecDepth 100000
namespace Mine
theorem caller_off : OffG ⟨.builtin "claim.caller" {}, none, none, [], none⟩ := ⟨by decide +kernel, fun x hx => nomatch hx⟩
theorem thread_ends_C {prog : Program} {w : World} {t : Sem PySem.Fin} {s : Shared} {R : Result → Shared → Prop} (hreg : s.asleep)
    (h : wpC (model prog w) callerA t (fun fin s' => ∃ f, fin = .done f ∧ (R (.ok f) s' ∧ leftWithCleanup s'.gens = false)) (fun e s' => R (.error e) s' ∧ leftWithCleanup s'.gens = false) s) :
    ∃ n r s' s'', runN (denote table) prog w n s ⟨t, .builtin "claim.caller" {}, default, []⟩ = .halted (outcomeOf r) s' ∧
      schedN (denote table) prog w n (.single s ⟨t, .builtin "claim.caller" {}, default, []⟩) = .halted (outcomeOf r) s' ∧ s'.forget = s''.forget ∧ R r s'' := by
  obtain ⟨n, r, s₁, s₂, hs, hn, hfo, hR⟩ := wp_halts_full (M := model prog w) (R := R) hreg
    (Sem.wp_mono _ _ _ (fun fin p' s' (h' : ∃ f, fin = .done f ∧ (R (.ok f) s' ∧ leftWithCleanup s'.gens = false)) => by obtain ⟨f, rfl, hf⟩ := h'; exact hf) (fun _ _ _ x => x) default _ (h _ default caller_in caller_off))
  exact ⟨n, r, s₂, s₁, hn, hs, hfo, hR⟩
theorem callFrom_C {c : ClaimW} {tree : List Value → Sem PySem.Fin} {w : World} {s : Shared} {free : Addr → Prop} {gens : Prop} {kept : Heap → Prop} (hz : s.asleep) (hgens : s.gens = #[])
    (hspec : ∀ args, c.pre args = true → WData.layableAll args = true →
      ∀ ord : List DictEntry → List DictEntry, (∀ l, (ord l).Perm l) →
      ∃ vs s₁, layAllW c.records (classAt s.heap) w.params ord args s = some (vs, s₁) ∧
        wpC (model c.prog w) callerA (tree vs) (fun fin s' => ∃ f, fin = .done f ∧ (c.Ends s args vs s₁ (.ok f) s' ∧ s'.os = s.os ∧ AllBare s'.gens ∧ kept s'.heap))
          (fun e s' => c.Ends s args vs s₁ (.error e) s' ∧ s'.os = s.os ∧ AllBare s'.gens ∧ kept s'.heap) s₁) :
    c.CallFrom (fun vs => ⟨tree vs, .builtin "claim.caller" {}, default, []⟩) w free gens kept s := by
  intro args hpre hlay ord hord
  obtain ⟨vs, s₁, hlaid, hcode⟩ := hspec args hpre hlay ord hord
  have hal := layAllW_rest _ _ _ hlaid
  obtain ⟨k, r, s', s'', hrun, hsched, hfo, hcase, hos, hkp⟩ := thread_ends_C (prog := c.prog) (w := w) (t := tree vs) (s := s₁)
    (R := fun r s' => c.Ends s args vs s₁ r s' ∧ s'.os = s.os ∧ kept s'.heap) (Shared.asleep_of_life hal.2.2.2 hz)
    (wpC_mono hcode (fun fin s' h => by obtain ⟨f, e, h1, h2, h3, h4⟩ := h; exact ⟨f, e, ⟨h1, h2, h4⟩, leftWithCleanup_false_of_bare h3⟩) fun e s' h => by obtain ⟨h1, h2, h3, h4⟩ := h; exact ⟨⟨h1, h2, h4⟩, leftWithCleanup_false_of_bare h3⟩)
  obtain ⟨eh, _, _, eo, _⟩ := Shared.forget_eq hfo
  have hcase := hcase.congr eh
  rw [← eh] at hkp
  rw [← eo] at hos
  have hlife : s'.heap.life = s.heap.life := (runN_life _ _ _ hrun).trans hal.2.2.2
  refine ⟨vs, s₁, hlaid, k, _, s', hsched, ?_, (fun _ i x hx => by rw [hgens] at hx; simp at hx), hkp, by rw [hlife], Shared.rest_eq hos⟩
  rcases hcase with ⟨v, rfl, d1, d2, d3, d4, d5⟩ | ⟨e, ob, cls, rfl, d1, d2, d3, d4, d5⟩
  · exact .inl ⟨v, rfl, d1, d2, d3, fun b o y _ => d4 b o y, d5⟩
  · exact .inr ⟨e, ob, cls, rfl, d1, d2, d3, d4, fun b o y _ => d5 b o y⟩
theorem nsGet_C {M : Model} {A : Around} {E : Value → Shared → Prop} {s : Shared} {mg : Str → Option Value} {name : Str} {f : Value} {Q : PySem.Fin → Shared → Prop} {vs : List Value} (hg : s.heap.Ns mainGlobals mg) (hf : mg name = some f)
    (h : wpC M A (PySem.call f vs) (fun v s' => Q (.done (.ret v)) s') E s) :
    wpC M A (do match ← nsGet mainNs name with | some f => do ret (← PySem.call f vs) | none => unsupported "claim.caller:no-such-global") Q E s :=
  wpC_bind_any (wpAny_nsGet hg (by rw [hf]; exact wpC_bind (wpC_mono h (fun _ _ x => wpC_pure x) fun _ _ x => x)))
/-- the law is called upon a clean stack -/
noncomputable abbrev WalkC (q : Program) (loose : List Str) (XP : (Str → Option Value) → Heap → Prop) (YP : World → Heap → Prop) (r : RowW) (d : DefRec) (kwd : List (Str × PySem.Expr)) : Prop :=
  ∀ (w : World) (s₀ s₁ : Shared) (mg mb : Str → Option Value), Ground q loose r.records XP w s₀ mg mb s₁.heap → YP w s₁.heap → ∀ (a : Addr) (o : Obj) (pm cd doc dV kV : Value), s₁.heap.get? a = some o →
    o.data = .func { docDef d.name d.params d.body d.scope pm cd doc with defaults := dV, kwdefaults := kV } → s₁.heap.CodeRec cd d.name → Dflts mg s₁.heap d.params kwd dV kV → mg d.name = some (.ref a) → s₁.gens = #[] →
    ∀ (args : List WData) (vals : List Value) (as : List Addr), r.claim.pre args = true → WData.layableAll args = true → ReadsAllW r.records (classAt s₀.heap) s₁.heap vals args as → WellAll w.params s₁.heap vals args → (∀ a ∈ as, (a == sysModules) = false) →
      wpC (model r.prog w) callerA (PySem.call (.ref a) vals) (fun v s' => GoodWG r.claim (classAt s₀.heap) (ExcName.means s₀.heap) args s₁ (.ok (.ret v)) s') NoE s₁
theorem holds_open_C {r : OpenRow} {q : Program} {loose : List Str} {Xt : Shared → Bool} {XP : (Str → Option Value) → Heap → Prop} {α : Type} {Yf : Shared → α} {Ya : World → α} {YP : World → Heap → Prop} {d : DefRec} {kwd : List (Str × PySem.Expr)} {N : Nat}
    (left : LeftO r.prog q loose Xt Yf Ya N) (hY : ∀ w s, Yf s = Ya w → YP w s.heap) (hYk : ∀ w h h', YP w h → (∀ b o, h.get? b = some o → h'.get? b = some o) → YP w h')
    (hX : ∀ s, Xt s = true → XP (s.heap.nsMap mainGlobals) s.heap) (hXk : ∀ mg h h', XP mg h → (∀ b o, h.get? b = some o → h'.get? b = some o) → XP mg h')
    (hdef : defOf q r.name = some (d, kwd)) (hp : r.prog.theDef r.name = some (d.params, d.body, d.scope)) (hk : kwWritten? d.params.kwonlyargs d.params.kw_defaults = some kwd) (hRf : ∀ s, Xt s = true → RecFacts r.records s.heap) (hwr : (!r.writes || r.records.isEmpty) = true)
    (k1 : r.wellSaid = true) (ok : (chainsOk q && opensWell r.prog && (frees r.toRowW && r.within.isEmpty)) = true) (hb : r.prog.bare) (hw : r.toRowW.promised)
    (call : WalkC q loose XP YP r.toRowW d kwd) : r.Holds := by
  obtain ⟨ok, k5⟩ := Bool.and_eq_true_iff.mp ok
  obtain ⟨hch, o1⟩ := Bool.and_eq_true_iff.mp ok
  obtain ⟨k5, k6⟩ := Bool.and_eq_true_iff.mp k5
  obtain ⟨hsame, hu, ha, hap, hm⟩ := frees_parts k5
  refine ⟨k1, hw, ⟨hb, o1, by show r.toRowW.makers.map _ = []; rw [hm]; rfl⟩, hw.witness, fun w => ⟨(left.behind hX hch w).1, fun s' hs' => ?_⟩⟩
  obtain ⟨s₀, hf, hg0, s, hT, hz, hgens, hg, G00, y⟩ := (left.behind (XP := fun mg h => XP mg h ∧ RecFacts r.records h) (fun s hs => ⟨hX s hs, hRf s hs⟩) hch w).2 s' hs'
  have G0 : Ground q loose [] XP w s (s.heap.nsMap mainGlobals) (s.heap.nsMap builtinsNs) s.heap := ⟨G00.T, G00.B, G00.D, G00.TE, G00.TD, G00.W, G00.X.1, G00.cls, G00.has, G00.apart, G00.once, G00.K⟩
  have RF := G00.X.2
  have hT' := hT
  refine ⟨s₀, hf, hg0, s, hT, fun n hn => ?_, RF.1, RF.2.1, ?_⟩
  · obtain rfl : n = r.name := by split at hn <;> simp_all
    exact pinned_of_view hg G0 hdef hp hk
  have hgens : s.gens = #[] := Array.eq_empty_of_size_eq_zero (beq_iff_eq.mp hgens)
  have G : Ground q loose r.records XP w s _ _ s.heap := RF.ground G0
  refine callFrom_C (c := r.toRowW.claim) hz hgens fun args hpre hlay ord hord => ?_
  obtain ⟨⟨vs, s₁⟩, hlaid⟩ := Option.isSome_iff_exists.mp (layAllW_isSome (P := w.params) (ord := ord) G.has args r.toRowW.args s (pre_splitW hpre).1)
  have keeps := layAllW_keeps _ _ _ hlaid
  have hal := layAllW_rest _ _ _ hlaid
  obtain ⟨as, hrd, hin, hold⟩ := reads_layAllW hord _ _ _ hlaid hlay s₁.heap (fun _ _ e => e)
  have L : Laid r.records w s s₁ args vs as := ⟨⟨ord, hord, hlaid⟩, hrd, hin, hold, keeps, hal.1.trans hgens, hal.2.2.1⟩
  have G₁ := G.keeps hXk keeps
  obtain ⟨a, o, pm, cd, doc, dV, kV, h1, h2, h3, h4, h5⟩ := G₁.fn hdef
  have hc := call w s s₁ _ _ G₁ (hYk _ _ _ (hY w s y) keeps) a o pm cd doc dV kV h2 h3 h4 h5 (defOf_name hdef ▸ h1) L.gens args vs as hpre hlay L.reads L.well (L.low G.low)
  have hi := ident_freeW hu ha hap
  have hwi : r.toRowW.claim.within = [] := List.isEmpty_iff.mp k6
  refine ⟨vs, s₁, hlaid, nsGet_C G₁.T.g h1 (wpC_mono hc (fun v s' g => ⟨_, rfl, ?_⟩) fun _ _ x => x.elim)⟩
  have z := g.laid (c := r.toRowW.claim) hsame hwi hi L
  exact ⟨z.1, z.2.1, z.2.2, fun q => ⟨namesKept_of hT' hg _ keeps g.2.1.old, noTable hwr q⟩⟩
end Mine
end

section
open PySem PySem.W PySem.Spec PySem.Calls PyProof.Rows
set_option maxRecDepth 100000
namespace Mine
theorem mem_envX {env : Env} {outer : List Env} {L b : Addr} (hf : env.frame = some L) (hm : b ∈ (env :: outer).filterMap (·.frame)) : b = L ∨ b ∈ outer.filterMap (·.frame) := by
  rw [List.filterMap_cons, hf] at hm
  exact List.mem_cons.mp hm
section
variable {w : World} {mean : ExcName → Option Value} {mg mb : Str → Option Value} {M : Model} {A : Around} {E : Value → Shared → Prop} {s s' : Shared} {base g g₂ h : Heap} {outer l : List Env} {L a e C dx t : Addr} {od : Obj} {m : Str → Option Value} {env : Env} {Q : Unit → Shared → Prop} {D U : Nat}
theorem pushX (K : Below A base outer g) (F : Fr g L h m) (hf : env.frame = some L) (hk : env.scope.kind = .function) : Below (A.deeper env) base (env :: outer) h := by
  have hnew : base.get? L = none := by
    cases hq : base.get? L with
    | none => rfl
    | some o => exact absurd (Nat.lt_of_lt_of_le (Heap.lt_size (K.stays L o hq)) F.above) (Nat.lt_irrefl _)
  exact ⟨Around.frames_deeper K.stack, fun b o e => F.keep b o (K.stays b o e), .cons (by rw [hk]; decide) hf F.ns hnew (K.frames.of_keeps fun b o e _ => ⟨o, F.keep b o e, rfl⟩)⟩
theorem Gr.pushX {D' U' : Nat} {gd : Option (List Code)} (G : Gr w mean mg mb D U A base outer s) {s' : Shared} (K : Below (zA D U outer gd) base outer g) (F : Fr g L s'.heap m) (hf : env.frame = some L) (hk : env.scope.kind = .function)
    (hd : D + 1 ≤ D') (hu : U + 3 ≤ U') : Gr w mean mg mb D' U' ((zA D U outer gd).deeper env) base (env :: outer) s' :=
  ⟨Mine.pushX K F hf hk, G.K, G.top, G.b0, rfl, hd, hu⟩
theorem leave_onX (K : Below A base outer g) (F : Fr g L g₂ m) (hf : env.frame = some L) (R : FlyD base g₂ (env :: outer) e C dx od s'.heap)
    (hQ : ∀ h', FlyD base g outer e C dx od h' → Q () { s' with heap := h' }) :
    wpAny M (A.deeper env) (leaving env (.ref e)) Q E s' := by
  obtain ⟨⟨t1, t2, t3⟩, n1, n2, ⟨oe, hoe, hod⟩, B, t, b1, b2, b3, b4⟩ := R
  have nL : ∀ b o, g.get? b = some o → b ∉ outer.filterMap (·.frame) → b ∉ (env :: outer).filterMap (·.frame) := fun b o q nm hm => by
    rcases mem_envX hf hm with z | z
    · rw [z, kts_self F] at q; cases q
    · exact nm z
  refine wpAny_mono (wpAny_CK (CK_leaving _ _) (wpAny_leaves_onW (Q := fun _ s'' => ∃ h', s'' = { s' with heap := h' } ∧ Heap.FlyingW B outer e (.ref C) (.ref t) h' ∧ s'.heap.UpToSlots h') (Around.frames_deeper K.stack) hf b4 fun h' x1 x2 => ⟨h', rfl, x1, x2⟩)) (fun _ s'' y => ?_) fun _ _ y => y
  obtain ⟨⟨h', rfl, x1, x2⟩, kd⟩ := y
  obtain ⟨oe', hoe', hod'⟩ := kd.1 _ _ hoe
  refine hQ h' ⟨⟨((Heap.UpToSlots.of_keeps F.keep).trans t1).trans x2, fun b o q nm => x1.1 _ _ (b2 b o (F.keep b o q) (nL b o q nm)), ?_⟩, kts_none F.keep n1, kts_none F.keep n2, ⟨oe', hoe', hod'.trans hod⟩, B, t, b1, fun b o q nm => b2 b o (F.keep b o q) (nL b o q nm), b3, x1⟩
  obtain ⟨oL, es, ep, hoL, hd, _⟩ := F.ns
  obtain ⟨sl, hs⟩ := (t1.trans x2) _ _ hoL (fun vs q => by rw [hd] at q; cases q)
  exact Nat.le_of_lt (Nat.lt_of_le_of_lt F.above (Heap.lt_size hs))
/-- a lambda of no parameters is entered -/
theorem enterL {R : Result → Shared → Prop} {name qual : Str} {params : Arguments} {body : PySem.Expr} {scope : Scope} {cl : List (Str × Addr)} {pm cdv ctv : Value} {f : Addr} {o : Obj}
    (G : Gr w mean mg mb D U A base l s) (hD : D < recursionLimit)
    (ho : s.heap.get? f = some o) (hdata : o.data = .func (kla_fn name qual params body scope cl pm cdv ctv)) (hcd : s.heap.CodeRec cdv qual)
    (hbind : bindArgs (kla_fn name qual params body scope cl pm cdv ctv) ⟨[], []⟩ = pure [])
    (h : ∀ L' h₁, Fr s.heap L' h₁ (fun _ => none) → News s.heap L' h₁ [] → Below (zA D U l A.guards) base l s.heap → (Mine.hd.heap_1 w.params).In s.heap → Top topProg LL mean mg mb s.heap →
      wpAny (model PySem.Challenge.rw_no0060_01.row.prog w) ((zA D U l A.guards).deeper (envX qual scope L' f cdv cl)) (eval body (envX qual scope L' f cdv cl)) (fun v s' => R (.ok (.ret v)) s')
        (fun e s' => wpAny (model PySem.Challenge.rw_no0060_01.row.prog w) ((zA D U l A.guards).deeper (envX qual scope L' f cdv cl)) (leaving (envX qual scope L' f cdv cl) e) (fun _ s'' => R (.error e) s'') (fun e' s'' => R (.error e') s'') s')
        { s with heap := h₁, toks := s.toks })
    (hco : scope.isCoroutine = false) (hgen : scope.isGenerator = false) (hk : scope.kind = .function)
    (hcell : ∀ x ∈ scope.names, x.2 ≠ .cell) : codeAny (model PySem.Challenge.rw_no0060_01.row.prog w) A (.call (.ref f) ⟨[], []⟩) R s := by
  refine G.code (kla_callFunE hD ho hdata hco hgen rfl hcd ?_)
  rw [hbind]
  refine wpAny_pure (wpAny_newFunctionEnv hcell (fun x hx => nomatch hx) (fun h₁ hns hsb => ⟨(G.tops.nolimit).fresh _ hsb, ?_⟩) hk)
  have hk₁ : ∀ b o, s.heap.get? b = some o → h₁.get? b = some o := fun b o e => hsb.extBut b o (Nat.ne_of_lt (Heap.lt_size e)) (Heap.get?_push_of_some _ e)
  show codeAny _ _ (.expr body (envX qual scope s.heap.objs.size f cdv cl)) _ _
  exact kla_codeExpr (h _ h₁ ⟨hns, hk₁, Nat.le_refl _⟩ News.nil G.z.below G.Ks G.tops)
end
end Mine
end

section
open PySem PySem.W PySem.Spec PySem.Calls PyProof.Rows
set_option maxRecDepth 100000
set_option maxHeartbeats 8000000
namespace Mine
noncomputable abbrev noArgs : Arguments := { posonlyargs := [], args := [], vararg := none, kwonlyargs := [], kw_defaults := [], kwarg := none, defaults := [] }
noncomputable abbrev lamS (ns : List (Str × NameKind)) : Scope := { kind := .function, names := ns, isGenerator := false, isCoroutine := false, more := [] }
theorem name_free {M : Model} {A : Around} {E : Value → Shared → Prop} {s s₀ : Shared} {env : Env} {x : Str} {p : Pos} {c : Addr} {v : Value} {Q : Value → Shared → Prop} (hv : s₀.heap.IsCell c (some v)) (hkp : ∀ b o, s₀.heap.get? b = some o → s.heap.get? b = some o) (hk : env.scope.kind = .function) (hl : env.kindOf x = some .free)
    (hc : env.cells.lookup x = some c) (h : Q v s) (hn : (x == ("__classdict__" : Str)) = false := by decide) (hd : (x == ("__debug__" : Str)) = false := by decide) : wpAny M A (eval (.Name x p) env) Q E s := by
  rw [eval_Name env x p hd]
  refine wpAny_bind (wpAny_standAt (wpAny_loadName_free hk hl hc ?_ h hn))
  obtain ⟨o, ho, r⟩ := hv
  exact ⟨o, hkp _ _ ho, r⟩
theorem lamP_R (w : World) {mean : ExcName → Option Value} {mg mb : Str → Option Value} {A : Around} {base : Heap} {l : List Env} {s : Shared} {R : Result → Shared → Prop} {f cN cS : Addr} {fo : Obj} {name qual : Str} {pm cdv ctv : Value} {p1 p2 p3 p4 : Pos} {n size : Int} {tn ts : Tok} (G : Gr w mean mg mb 355 181 A base l s)
  (ho : s.heap.get? f = some fo) (hdata : fo.data = .func (kla_fn name qual noArgs (.Call (.Name (Str.ofString "put_varint") p1) [.Name (Str.ofString "n") p2, .Name (Str.ofString "size") p3] [] p4) (lamS [(Str.ofString "n", .free), (Str.ofString "size", .free), (Str.ofString "put_varint", .globalImplicit)]) [(Str.ofString "size", cS), (Str.ofString "n", cN)] pm cdv ctv))
  (hcd : s.heap.CodeRec cdv qual) (hcn : s.heap.IsCell cN (some (.int n tn))) (hcs : s.heap.IsCell cS (some (.int size ts)))
  (hn0 : 0 ≤ n) (hn1 : n < 4611686018427387904) (hl : size < leastOf n)
  (hR : ∀ e dx od h' tk, IsQ od → FlyD base s.heap l e 31 dx od h' → R (.error (.ref e)) { s with heap := h', toks := tk }) :
  codeAny (model PySem.Challenge.rw_no0060_01.row.prog w) A (.call (.ref f) ⟨[], []⟩) R s := by
  have hfill : (Mine.hd.heap_1 w.params).In s.heap → PySem.Challenge.rw_no0060_01 = PySem.Challenge.rw_no0060_01 := by k_fill; intro _; rfl
  clear hfill
  refine enterL G (by decide) ho hdata hcd rfl (fun L' h₁ F N B X T => ?_) rfl rfl rfl (by decide)
  (try k_lift B)
  (repeat' (first | (k_unfold; (try dsimp only)) | (k_end; wrow_close) | ((with_reducible show wpAny _ _ (call (Value.ref 83) _) _ _ _); first | (with_reducible ((rename Fr _ _ _ _ => F3); (refine wpAny_call (pv_R w (Gr.pushX G B F3 rfl rfl (by decide) (by decide)) hn0 hn1 hl fun e dx od h' tk hod FD => leave_onX B F3 rfl FD fun h'' FD' => hR _ _ _ _ _ hod FD')))) | ((rename Fr _ _ _ _ => F3); (refine wpAny_call (pv_R w (Gr.pushX G B F3 rfl rfl (by decide) (by decide)) hn0 hn1 hl fun e dx od h' tk hod FD => leave_onX B F3 rfl FD fun h'' FD' => hR _ _ _ _ _ hod FD')))) | ((with_reducible show wpAny _ _ (eval (Expr.Name _ _) _) _ _ _); first | (with_reducible ((rename Fr _ _ _ _ => F3); (with_unfolding_all refine' name_free (s₀ := s) ?z0 F3.keep ?z1 ?z2 ?z3 ?_ ?z4 ?z5; (case z1 => rfl); (case z2 => rfl); (case z3 => rfl); (case z0 => assumption); (case z4 => decide); (case z5 => decide)))) | ((rename Fr _ _ _ _ => F3); (with_unfolding_all refine' name_free (s₀ := s) ?z0 F3.keep ?z1 ?z2 ?z3 ?_ ?z4 ?z5; (case z1 => rfl); (case z2 => rfl); (case z3 => rfl); (case z0 => assumption); (case z4 => decide); (case z5 => decide)))) | walk1 | (dsimp only; walk1) | (leave1; (try dsimp only)) | fail "no step"))
end Mine
end

section
open PySem PySem.W PySem.Spec PySem.Calls PyProof.Rows
set_option maxRecDepth 100000
set_option maxHeartbeats 8000000
namespace Mine
theorem lamN_R (w : World) {mean : ExcName → Option Value} {mg mb : Str → Option Value} {A : Around} {base : Heap} {l : List Env} {s : Shared} {R : Result → Shared → Prop} {f : Addr} {fo : Obj} {name qual : Str} {pm cdv ctv : Value} {p1 p2 p3 p4 : Pos} {cN : Addr} {n : Int} {tn : Tok} (G : Gr w mean mg mb 355 181 A base l s)
  (ho : s.heap.get? f = some fo) (hdata : fo.data = .func (kla_fn name qual noArgs (.Call (.Name (Str.ofString "put_varint") p1) [.Name (Str.ofString "n") p2, .Constant .none 0 p3] [] p4) (lamS [((Str.ofString "n"), .free), ((Str.ofString "put_varint"), .globalImplicit)]) [((Str.ofString "n"), cN)] pm cdv ctv))
  (hcd : s.heap.CodeRec cdv qual) (hcn : s.heap.IsCell cN (some (.int n tn))) (hn : n < 0 ∨ 4611686018427387904 ≤ n)
  (hR : ∀ e dx od h' tk, IsQ od → FlyD base s.heap l e 31 dx od h' → R (.error (.ref e)) { s with heap := h', toks := tk }) :
  codeAny (model PySem.Challenge.rw_no0060_01.row.prog w) A (.call (.ref f) ⟨[], []⟩) R s := by
  have hfill : (Mine.hd.heap_1 w.params).In s.heap → PySem.Challenge.rw_no0060_01 = PySem.Challenge.rw_no0060_01 := by k_fill; intro _; rfl
  clear hfill
  refine enterL G (by decide) ho hdata hcd rfl (fun L' h₁ F N B X T => ?_) rfl rfl rfl (by decide)
  (try k_lift B)
  (repeat' (first | (k_unfold; (try dsimp only)) | (k_end; wrow_close) | ((with_reducible show wpAny _ _ (call (Value.ref 83) _) _ _ _); first | (with_reducible ((rename Fr _ _ _ _ => F3); (refine wpAny_call (pvn_R w (Gr.pushX G B F3 rfl rfl (by decide) (by decide)) hn fun e dx od h' tk hod FD => leave_onX B F3 rfl FD fun h'' FD' => hR _ _ _ _ _ hod FD')))) | ((rename Fr _ _ _ _ => F3); (refine wpAny_call (pvn_R w (Gr.pushX G B F3 rfl rfl (by decide) (by decide)) hn fun e dx od h' tk hod FD => leave_onX B F3 rfl FD fun h'' FD' => hR _ _ _ _ _ hod FD')))) | ((with_reducible show wpAny _ _ (eval (Expr.Name _ _) _) _ _ _); first | (with_reducible ((rename Fr _ _ _ _ => F3); (with_unfolding_all refine' name_free (s₀ := s) ?z0 F3.keep ?z1 ?z2 ?z3 ?_ ?z4 ?z5; (case z1 => rfl); (case z2 => rfl); (case z3 => rfl); (case z0 => assumption); (case z4 => decide); (case z5 => decide)))) | ((rename Fr _ _ _ _ => F3); (with_unfolding_all refine' name_free (s₀ := s) ?z0 F3.keep ?z1 ?z2 ?z3 ?_ ?z4 ?z5; (case z1 => rfl); (case z2 => rfl); (case z3 => rfl); (case z0 => assumption); (case z4 => decide); (case z5 => decide)))) | walk1 | (dsimp only; walk1) | (leave1; (try dsimp only)) | fail "no step"))
theorem lamV_R (w : World) {mean : ExcName → Option Value} {mg mb : Str → Option Value} {A : Around} {base : Heap} {l : List Env} {s : Shared} {R : Result → Shared → Prop} {f : Addr} {fo : Obj} {name qual : Str} {pm cdv ctv : Value} {p1 p2 p4 : Pos} {cN : Addr} {n : Int} {tn : Tok} (G : Gr w mean mg mb 355 181 A base l s)
  (ho : s.heap.get? f = some fo) (hdata : fo.data = .func (kla_fn name qual noArgs (.Call (.Name (Str.ofString "varint_size") p1) [.Name (Str.ofString "n") p2] [] p4) (lamS [((Str.ofString "n"), .free), ((Str.ofString "varint_size"), .globalImplicit)]) [((Str.ofString "n"), cN)] pm cdv ctv))
  (hcd : s.heap.CodeRec cdv qual) (hcn : s.heap.IsCell cN (some (.int n tn))) (hn : n < 0 ∨ 4611686018427387904 ≤ n)
  (hR : ∀ e dx od h' tk, IsQ od → FlyD base s.heap l e 31 dx od h' → R (.error (.ref e)) { s with heap := h', toks := tk }) :
  codeAny (model PySem.Challenge.rw_no0060_01.row.prog w) A (.call (.ref f) ⟨[], []⟩) R s := by
  have hfill : (Mine.hd.heap_1 w.params).In s.heap → PySem.Challenge.rw_no0060_01 = PySem.Challenge.rw_no0060_01 := by k_fill; intro _; rfl
  clear hfill
  refine enterL G (by decide) ho hdata hcd rfl (fun L' h₁ F N B X T => ?_) rfl rfl rfl (by decide)
  (try k_lift B)
  (repeat' (first | (k_unfold; (try dsimp only)) | (k_end; wrow_close) | ((with_reducible show wpAny _ _ (call (Value.ref 76) _) _ _ _); first | (with_reducible ((rename Fr _ _ _ _ => F3); (refine wpAny_call (vs_R w (Gr.pushX G B F3 rfl rfl (by decide) (by decide)) hn fun e dx od h' tk hod FD => leave_onX B F3 rfl FD fun h'' FD' => hR _ _ _ _ _ hod FD')))) | ((rename Fr _ _ _ _ => F3); (refine wpAny_call (vs_R w (Gr.pushX G B F3 rfl rfl (by decide) (by decide)) hn fun e dx od h' tk hod FD => leave_onX B F3 rfl FD fun h'' FD' => hR _ _ _ _ _ hod FD')))) | ((with_reducible show wpAny _ _ (call (Value.ref 83) _) _ _ _); first | (with_reducible ((rename Fr _ _ _ _ => F3); (refine wpAny_call (pvn_R w (Gr.pushX G B F3 rfl rfl (by decide) (by decide)) hn fun e dx od h' tk hod FD => leave_onX B F3 rfl FD fun h'' FD' => hR _ _ _ _ _ hod FD')))) | ((rename Fr _ _ _ _ => F3); (refine wpAny_call (pvn_R w (Gr.pushX G B F3 rfl rfl (by decide) (by decide)) hn fun e dx od h' tk hod FD => leave_onX B F3 rfl FD fun h'' FD' => hR _ _ _ _ _ hod FD')))) | ((with_reducible show wpAny _ _ (eval (Expr.Name _ _) _) _ _ _); first | (with_reducible ((rename Fr _ _ _ _ => F3); (with_unfolding_all refine' name_free (s₀ := s) ?z0 F3.keep ?z1 ?z2 ?z3 ?_ ?z4 ?z5; (case z1 => rfl); (case z2 => rfl); (case z3 => rfl); (case z0 => assumption); (case z4 => decide); (case z5 => decide)))) | ((rename Fr _ _ _ _ => F3); (with_unfolding_all refine' name_free (s₀ := s) ?z0 F3.keep ?z1 ?z2 ?z3 ?_ ?z4 ?z5; (case z1 => rfl); (case z2 => rfl); (case z3 => rfl); (case z0 => assumption); (case z4 => decide); (case z5 => decide)))) | walk1 | (dsimp only; walk1) | (leave1; (try dsimp only)) | fail "no step"))
theorem lam53_R (w : World) {mean : ExcName → Option Value} {mg mb : Str → Option Value} {A : Around} {base : Heap} {l : List Env} {s : Shared} {R : Result → Shared → Prop} {f : Addr} {fo : Obj} {name qual : Str} {pm cdv ctv : Value} {p1 p2 p3 p4 : Pos} (G : Gr w mean mg mb 355 181 A base l s)
  (ho : s.heap.get? f = some fo) (hdata : fo.data = .func (kla_fn name qual noArgs (.Call (.Name (Str.ofString "put_varint") p1) [.Constant (.int 5) 0 p2, .Constant (.int 3) 0 p3] [] p4) (lamS [((Str.ofString "put_varint"), .globalImplicit)]) [] pm cdv ctv))
  (hcd : s.heap.CodeRec cdv qual) 
  (hR : ∀ e dx od h' tk, IsQ od → FlyD base s.heap l e 31 dx od h' → R (.error (.ref e)) { s with heap := h', toks := tk }) :
  codeAny (model PySem.Challenge.rw_no0060_01.row.prog w) A (.call (.ref f) ⟨[], []⟩) R s := by
  have hfill : (Mine.hd.heap_1 w.params).In s.heap → PySem.Challenge.rw_no0060_01 = PySem.Challenge.rw_no0060_01 := by k_fill; intro _; rfl
  clear hfill
  refine enterL G (by decide) ho hdata hcd rfl (fun L' h₁ F N B X T => ?_) rfl rfl rfl (by decide)
  (try k_lift B)
  (repeat' (first | (k_unfold; (try dsimp only)) | (k_end; wrow_close) | ((with_reducible show wpAny _ _ (call (Value.ref 83) _) _ _ _); first | (with_reducible ((rename Fr _ _ _ _ => F3); (refine wpAny_call (pv3_R w (Gr.pushX G B F3 rfl rfl (by decide) (by decide)) fun e dx od h' tk hod FD => leave_onX B F3 rfl FD fun h'' FD' => hR _ _ _ _ _ hod FD')))) | ((rename Fr _ _ _ _ => F3); (refine wpAny_call (pv3_R w (Gr.pushX G B F3 rfl rfl (by decide) (by decide)) fun e dx od h' tk hod FD => leave_onX B F3 rfl FD fun h'' FD' => hR _ _ _ _ _ hod FD')))) | ((with_reducible show wpAny _ _ (call (Value.ref 76) _) _ _ _); first | (with_reducible ((rename Fr _ _ _ _ => F3); (refine wpAny_call (vs_R w (Gr.pushX G B F3 rfl rfl (by decide) (by decide)) hn fun e dx od h' tk hod FD => leave_onX B F3 rfl FD fun h'' FD' => hR _ _ _ _ _ hod FD')))) | ((rename Fr _ _ _ _ => F3); (refine wpAny_call (vs_R w (Gr.pushX G B F3 rfl rfl (by decide) (by decide)) hn fun e dx od h' tk hod FD => leave_onX B F3 rfl FD fun h'' FD' => hR _ _ _ _ _ hod FD')))) | ((with_reducible show wpAny _ _ (call (Value.ref 83) _) _ _ _); first | (with_reducible ((rename Fr _ _ _ _ => F3); (refine wpAny_call (pvn_R w (Gr.pushX G B F3 rfl rfl (by decide) (by decide)) hn fun e dx od h' tk hod FD => leave_onX B F3 rfl FD fun h'' FD' => hR _ _ _ _ _ hod FD')))) | ((rename Fr _ _ _ _ => F3); (refine wpAny_call (pvn_R w (Gr.pushX G B F3 rfl rfl (by decide) (by decide)) hn fun e dx od h' tk hod FD => leave_onX B F3 rfl FD fun h'' FD' => hR _ _ _ _ _ hod FD')))) | ((with_reducible show wpAny _ _ (eval (Expr.Name _ _) _) _ _ _); first | (with_reducible ((rename Fr _ _ _ _ => F3); (with_unfolding_all refine' name_free (s₀ := s) ?z0 F3.keep ?z1 ?z2 ?z3 ?_ ?z4 ?z5; (case z1 => rfl); (case z2 => rfl); (case z3 => rfl); (case z0 => assumption); (case z4 => decide); (case z5 => decide)))) | ((rename Fr _ _ _ _ => F3); (with_unfolding_all refine' name_free (s₀ := s) ?z0 F3.keep ?z1 ?z2 ?z3 ?_ ?z4 ?z5; (case z1 => rfl); (case z2 => rfl); (case z3 => rfl); (case z0 => assumption); (case z4 => decide); (case z5 => decide)))) | walk1 | (dsimp only; walk1) | (leave1; (try dsimp only)) | fail "no step"))
end Mine
end

section
open PySem PySem.W PySem.Spec PySem.Calls PyProof.Rows
set_option maxRecDepth 100000
set_option maxHeartbeats 8000000
namespace Mine
theorem lamC_R1 (w : World) {mean : ExcName → Option Value} {mg mb : Str → Option Value} {A : Around} {base : Heap} {l : List Env} {s : Shared} {R : Result → Shared → Prop} {f : Addr} {fo : Obj} {name qual : Str} {pm cdv ctv : Value} {p1 p2 p3 p4 p5 p6 : Pos} {cA cC : Addr} {ba bc : Array UInt8} {ka ks : List Int} {ta tc : Tok} {sz : Int} (G : Gr w mean mg mb 355 181 A base l s)
  (ho : s.heap.get? f = some fo) (hdata : fo.data = .func (kla_fn name qual noArgs (.Call (.Name (Str.ofString "get_varint") p1) [.Name (Str.ofString "cut") p2, .Call (.Name (Str.ofString "len") p3) [.Name (Str.ofString "ahead") p4] [] p5] [] p6) (lamS [((Str.ofString "ahead"), .free), ((Str.ofString "cut"), .free), ((Str.ofString "get_varint"), .globalImplicit), ((Str.ofString "len"), .globalImplicit)]) [((Str.ofString "cut"), cC), ((Str.ofString "ahead"), cA)] pm cdv ctv))
  (hcd : s.heap.CodeRec cdv qual) (hca : s.heap.IsCell cA (some (.bytes ba ta))) (hcc : s.heap.IsCell cC (some (.bytes bc tc))) (hba : KBw.bInts ba = ka) (hla : ka.length ≤ 100) (hb : KBw.bInts bc = ks) (hlen : ks.length ≤ 100) (hge : (ks.length : Int) ≤ (ka.length : Nat))
  (hR : ∀ e dx od h' tk, FlyD base s.heap l e 51 dx od h' → R (.error (.ref e)) { s with heap := h', toks := tk }) :
  codeAny (model PySem.Challenge.rw_no0060_01.row.prog w) A (.call (.ref f) ⟨[], []⟩) R s := by
  have hfill : (Mine.hd.heap_1 w.params).In s.heap → PySem.Challenge.rw_no0060_01 = PySem.Challenge.rw_no0060_01 := by k_fill; intro _; rfl
  clear hfill
  refine enterL G (by decide) ho hdata hcd rfl (fun L' h₁ F N B X T => ?_) rfl rfl rfl (by decide)
  (try k_lift B)
  (repeat' (first | (k_unfold; (try dsimp only)) | (k_end; wrow_close) | ((with_reducible show wpAny _ _ (call (Value.ref 90) _) _ _ _); first | (with_reducible ((rename Fr _ _ _ _ => F3); (refine wpAny_call (gv_R1 w (Gr.pushX G B F3 rfl rfl (by decide) (by decide)) hb hlen (by omega) hge fun e dx od h' tk FD => leave_onX B F3 rfl FD fun h'' FD' => hR _ _ _ _ _ FD')))) | ((rename Fr _ _ _ _ => F3); (refine wpAny_call (gv_R1 w (Gr.pushX G B F3 rfl rfl (by decide) (by decide)) hb hlen (by omega) hge fun e dx od h' tk FD => leave_onX B F3 rfl FD fun h'' FD' => hR _ _ _ _ _ FD')))) | ((with_reducible show wpAny _ _ (call (Value.ref 90) _) _ _ _); first | (with_reducible ((rename Fr _ _ _ _ => F3); (refine wpAny_call (gv_R2 w (Gr.pushX G B F3 rfl rfl (by decide) (by decide)) hb hlen (by omega) hlt hsz hcut fun e dx od h' tk FD => leave_onX B F3 rfl FD fun h'' FD' => hR _ _ _ _ _ FD')))) | ((rename Fr _ _ _ _ => F3); (refine wpAny_call (gv_R2 w (Gr.pushX G B F3 rfl rfl (by decide) (by decide)) hb hlen (by omega) hlt hsz hcut fun e dx od h' tk FD => leave_onX B F3 rfl FD fun h'' FD' => hR _ _ _ _ _ FD')))) | ((with_reducible show wpAny _ _ (eval (Expr.Name _ _) _) _ _ _); first | (with_reducible ((rename Fr _ _ _ _ => F3); (with_unfolding_all refine' name_free (s₀ := s) ?z0 F3.keep ?z1 ?z2 ?z3 ?_ ?z4 ?z5; (case z1 => rfl); (case z2 => rfl); (case z3 => rfl); (case z0 => assumption); (case z4 => decide); (case z5 => decide)))) | ((rename Fr _ _ _ _ => F3); (with_unfolding_all refine' name_free (s₀ := s) ?z0 F3.keep ?z1 ?z2 ?z3 ?_ ?z4 ?z5; (case z1 => rfl); (case z2 => rfl); (case z3 => rfl); (case z0 => assumption); (case z4 => decide); (case z5 => decide)))) | walk1 | (dsimp only; walk1) | (leave1; (try dsimp only)) | fail "no step"))
theorem lamC_R2 (w : World) {mean : ExcName → Option Value} {mg mb : Str → Option Value} {A : Around} {base : Heap} {l : List Env} {s : Shared} {R : Result → Shared → Prop} {f : Addr} {fo : Obj} {name qual : Str} {pm cdv ctv : Value} {p1 p2 p3 p4 p5 p6 : Pos} {cA cC : Addr} {ba bc : Array UInt8} {ka ks : List Int} {ta tc : Tok} {sz : Int} (G : Gr w mean mg mb 355 181 A base l s)
  (ho : s.heap.get? f = some fo) (hdata : fo.data = .func (kla_fn name qual noArgs (.Call (.Name (Str.ofString "get_varint") p1) [.Name (Str.ofString "cut") p2, .Call (.Name (Str.ofString "len") p3) [.Name (Str.ofString "ahead") p4] [] p5] [] p6) (lamS [((Str.ofString "ahead"), .free), ((Str.ofString "cut"), .free), ((Str.ofString "get_varint"), .globalImplicit), ((Str.ofString "len"), .globalImplicit)]) [((Str.ofString "cut"), cC), ((Str.ofString "ahead"), cA)] pm cdv ctv))
  (hcd : s.heap.CodeRec cdv qual) (hca : s.heap.IsCell cA (some (.bytes ba ta))) (hcc : s.heap.IsCell cC (some (.bytes bc tc))) (hba : KBw.bInts ba = ka) (hla : ka.length ≤ 100) (hb : KBw.bInts bc = ks) (hlen : ks.length ≤ 100) (hlt : ((ka.length : Nat) : Int) < (ks.length : Int)) (hsz : szOf ((ks.getD ((ka.length : Nat) : Int).toNat 0).fdiv (2 ^ Int.toNat 6)) = sz) (hcut : (ks.length : Int) < ((ka.length : Nat) : Int) + sz)
  (hR : ∀ e dx od h' tk, FlyD base s.heap l e 51 dx od h' → R (.error (.ref e)) { s with heap := h', toks := tk }) :
  codeAny (model PySem.Challenge.rw_no0060_01.row.prog w) A (.call (.ref f) ⟨[], []⟩) R s := by
  have hfill : (Mine.hd.heap_1 w.params).In s.heap → PySem.Challenge.rw_no0060_01 = PySem.Challenge.rw_no0060_01 := by k_fill; intro _; rfl
  clear hfill
  refine enterL G (by decide) ho hdata hcd rfl (fun L' h₁ F N B X T => ?_) rfl rfl rfl (by decide)
  (try k_lift B)
  (repeat' (first | (k_unfold; (try dsimp only)) | (k_end; wrow_close) | ((with_reducible show wpAny _ _ (call (Value.ref 90) _) _ _ _); first | (with_reducible ((rename Fr _ _ _ _ => F3); (refine wpAny_call (gv_R1 w (Gr.pushX G B F3 rfl rfl (by decide) (by decide)) hb hlen (by omega) hge fun e dx od h' tk FD => leave_onX B F3 rfl FD fun h'' FD' => hR _ _ _ _ _ FD')))) | ((rename Fr _ _ _ _ => F3); (refine wpAny_call (gv_R1 w (Gr.pushX G B F3 rfl rfl (by decide) (by decide)) hb hlen (by omega) hge fun e dx od h' tk FD => leave_onX B F3 rfl FD fun h'' FD' => hR _ _ _ _ _ FD')))) | ((with_reducible show wpAny _ _ (call (Value.ref 90) _) _ _ _); first | (with_reducible ((rename Fr _ _ _ _ => F3); (refine wpAny_call (gv_R2 w (Gr.pushX G B F3 rfl rfl (by decide) (by decide)) hb hlen (by omega) hlt hsz hcut fun e dx od h' tk FD => leave_onX B F3 rfl FD fun h'' FD' => hR _ _ _ _ _ FD')))) | ((rename Fr _ _ _ _ => F3); (refine wpAny_call (gv_R2 w (Gr.pushX G B F3 rfl rfl (by decide) (by decide)) hb hlen (by omega) hlt hsz hcut fun e dx od h' tk FD => leave_onX B F3 rfl FD fun h'' FD' => hR _ _ _ _ _ FD')))) | ((with_reducible show wpAny _ _ (eval (Expr.Name _ _) _) _ _ _); first | (with_reducible ((rename Fr _ _ _ _ => F3); (with_unfolding_all refine' name_free (s₀ := s) ?z0 F3.keep ?z1 ?z2 ?z3 ?_ ?z4 ?z5; (case z1 => rfl); (case z2 => rfl); (case z3 => rfl); (case z0 => assumption); (case z4 => decide); (case z5 => decide)))) | ((rename Fr _ _ _ _ => F3); (with_unfolding_all refine' name_free (s₀ := s) ?z0 F3.keep ?z1 ?z2 ?z3 ?_ ?z4 ?z5; (case z1 => rfl); (case z2 => rfl); (case z3 => rfl); (case z0 => assumption); (case z4 => decide); (case z5 => decide)))) | walk1 | (dsimp only; walk1) | (leave1; (try dsimp only)) | fail "no step"))
end Mine
end

section
open PySem PySem.W PySem.Spec PySem.Calls PyProof.Rows
set_option maxRecDepth 100000
set_option maxHeartbeats 8000000
namespace Mine
theorem lamG_R (w : World) {mean : ExcName → Option Value} {mg mb : Str → Option Value} {A : Around} {base : Heap} {l : List Env} {s : Shared} {R : Result → Shared → Prop} {f : Addr} {fo : Obj} {name qual : Str} {pm cdv ctv : Value} {p1 p2 p3 p4 p5 : Pos} {cD cS : Addr} {b : Array UInt8} {ks : List Int} {td ts : Tok} {size : Int} (G : Gr w mean mg mb 355 181 A base l s)
  (ho : s.heap.get? f = some fo) (hdata : fo.data = .func (kla_fn name qual noArgs (.Call (.Name (Str.ofString "get_whole") p1) [.Name (Str.ofString "data") p2, .Constant (.int 1) 0 p3, .Name (Str.ofString "size") p4] [] p5) (lamS [((Str.ofString "data"), .free), ((Str.ofString "size"), .free), ((Str.ofString "get_whole"), .globalImplicit)]) [((Str.ofString "size"), cS), ((Str.ofString "data"), cD)] pm cdv ctv))
  (hcd : s.heap.CodeRec cdv qual) (hcd1 : s.heap.IsCell cD (some (.bytes b td))) (hcs : s.heap.IsCell cS (some (.int size ts))) (hb : KBw.bInts b = ks) (hlen : ks.length ≤ 100) (hs1 : 1 ≤ size) (hs8 : size ≤ 8) (hcut : (ks.length : Int) < 1 + size)
  (hR : ∀ e dx od h' tk, FlyD base s.heap l e 51 dx od h' → R (.error (.ref e)) { s with heap := h', toks := tk }) :
  codeAny (model PySem.Challenge.rw_no0060_01.row.prog w) A (.call (.ref f) ⟨[], []⟩) R s := by
  have hfill : (Mine.hd.heap_1 w.params).In s.heap → PySem.Challenge.rw_no0060_01 = PySem.Challenge.rw_no0060_01 := by k_fill; intro _; rfl
  clear hfill
  refine enterL G (by decide) ho hdata hcd rfl (fun L' h₁ F N B X T => ?_) rfl rfl rfl (by decide)
  (try k_lift B)
  (repeat' (first | (k_unfold; (try dsimp only)) | (k_end; wrow_close) | ((with_reducible show wpAny _ _ (call (Value.ref 69) _) _ _ _); first | (with_reducible ((rename Fr _ _ _ _ => F3); (refine wpAny_call (gw_R w (Gr.pushX G B F3 rfl rfl (by decide) (by decide)) hb hlen (by decide) (by omega) (by omega) hcut fun e dx od h' tk FD => leave_onX B F3 rfl FD fun h'' FD' => hR _ _ _ _ _ FD')))) | ((rename Fr _ _ _ _ => F3); (refine wpAny_call (gw_R w (Gr.pushX G B F3 rfl rfl (by decide) (by decide)) hb hlen (by decide) (by omega) (by omega) hcut fun e dx od h' tk FD => leave_onX B F3 rfl FD fun h'' FD' => hR _ _ _ _ _ FD')))) | ((with_reducible show wpAny _ _ (eval (Expr.Name _ _) _) _ _ _); first | (with_reducible ((rename Fr _ _ _ _ => F3); (with_unfolding_all refine' name_free (s₀ := s) ?z0 F3.keep ?z1 ?z2 ?z3 ?_ ?z4 ?z5; (case z1 => rfl); (case z2 => rfl); (case z3 => rfl); (case z0 => assumption); (case z4 => decide); (case z5 => decide)))) | ((rename Fr _ _ _ _ => F3); (with_unfolding_all refine' name_free (s₀ := s) ?z0 F3.keep ?z1 ?z2 ?z3 ?_ ?z4 ?z5; (case z1 => rfl); (case z2 => rfl); (case z3 => rfl); (case z0 => assumption); (case z4 => decide); (case z5 => decide)))) | walk1 | (dsimp only; walk1) | (leave1; (try dsimp only)) | fail "no step"))
end Mine
end

section
open PySem PySem.W PySem.Spec PySem.Calls PyProof.Rows
set_option maxRecDepth 100000
set_option maxHeartbeats 8000000
namespace Mine
theorem lamE_R (w : World) {mean : ExcName → Option Value} {mg mb : Str → Option Value} {A : Around} {base : Heap} {l : List Env} {s : Shared} {R : Result → Shared → Prop} {f : Addr} {fo : Obj} {name qual : Str} {pm cdv ctv : Value} {p1 p2 p3 p4 : Pos} (G : Gr w mean mg mb 355 181 A base l s)
  (ho : s.heap.get? f = some fo) (hdata : fo.data = .func (kla_fn name qual noArgs (.Call (.Name (Str.ofString "get_varint") p1) [.Constant (.bytes []) 0 p2, .Constant (.int 0) 0 p3] [] p4) (lamS [((Str.ofString "get_varint"), .globalImplicit)]) [] pm cdv ctv))
  (hcd : s.heap.CodeRec cdv qual)
  (hR : ∀ e dx od h' tk, FlyD base s.heap l e 51 dx od h' → R (.error (.ref e)) { s with heap := h', toks := tk }) :
  codeAny (model PySem.Challenge.rw_no0060_01.row.prog w) A (.call (.ref f) ⟨[], []⟩) R s := by
  have hfill : (Mine.hd.heap_1 w.params).In s.heap → PySem.Challenge.rw_no0060_01 = PySem.Challenge.rw_no0060_01 := by k_fill; intro _; rfl
  clear hfill
  refine enterL G (by decide) ho hdata hcd rfl (fun L' h₁ F N B X T => ?_) rfl rfl rfl (by decide)
  (try k_lift B)
  (repeat' (first | (k_unfold; (try dsimp only)) | (k_end; wrow_close) | ((with_reducible show wpAny _ _ (call (Value.ref 90) _) _ _ _); first | (with_reducible ((rename Fr _ _ _ _ => F3); (refine wpAny_call (gv_R1 w (Gr.pushX G B F3 rfl rfl (by decide) (by decide)) (ks := []) (by with_unfolding_all rfl) (by decide) (by decide) (by decide) fun e dx od h' tk FD => leave_onX B F3 rfl FD fun h'' FD' => hR _ _ _ _ _ FD')))) | ((rename Fr _ _ _ _ => F3); (refine wpAny_call (gv_R1 w (Gr.pushX G B F3 rfl rfl (by decide) (by decide)) (ks := []) (by with_unfolding_all rfl) (by decide) (by decide) (by decide) fun e dx od h' tk FD => leave_onX B F3 rfl FD fun h'' FD' => hR _ _ _ _ _ FD')))) | ((with_reducible show wpAny _ _ (eval (Expr.Name _ _) _) _ _ _); first | (with_reducible ((rename Fr _ _ _ _ => F3); (with_unfolding_all refine' name_free (s₀ := s) ?z0 F3.keep ?z1 ?z2 ?z3 ?_ ?z4 ?z5; (case z1 => rfl); (case z2 => rfl); (case z3 => rfl); (case z0 => assumption); (case z4 => decide); (case z5 => decide)))) | ((rename Fr _ _ _ _ => F3); (with_unfolding_all refine' name_free (s₀ := s) ?z0 F3.keep ?z1 ?z2 ?z3 ?_ ?z4 ?z5; (case z1 => rfl); (case z2 => rfl); (case z3 => rfl); (case z0 => assumption); (case z4 => decide); (case z5 => decide)))) | walk1 | (dsimp only; walk1) | (leave1; (try dsimp only)) | fail "no step"))
end Mine
end

section
open PySem PySem.W PySem.Spec PySem.Calls PyProof.Rows
set_option maxRecDepth 100000
set_option maxHeartbeats 8000000
namespace Mine
theorem pw_pow {size : Int} (h1 : 1 ≤ size) : ((256 : Int) ^ size.toNat).fdiv (2 ^ (8 * size).toNat) ≠ 0 := by
  have e : (2 : Int) ^ (8 * size).toNat = 256 ^ size.toNat := by
    rw [show (8 * size).toNat = 8 * size.toNat by omega, Int.pow_mul]
    rfl
  have hp : (0 : Int) < 256 ^ size.toNat := Int.pow_pos (by decide)
  rw [e, Int.fdiv_eq_ediv_of_nonneg _ (Int.le_of_lt hp), Int.ediv_self (Int.ne_of_gt hp)]
  decide
theorem lamW_R (w : World) {mean : ExcName → Option Value} {mg mb : Str → Option Value} {A : Around} {base : Heap} {l : List Env} {s : Shared} {R : Result → Shared → Prop} {f : Addr} {fo : Obj} {name qual : Str} {pm cdv ctv : Value} {p1 p2 p3 p4 p5 p6 : Pos} {cS : Addr} {size : Int} {ts : Tok} (G : Gr w mean mg mb 355 181 A base l s)
  (ho : s.heap.get? f = some fo) (hdata : fo.data = .func (kla_fn name qual noArgs (.Call (.Name (Str.ofString "put_whole") p1) [.BinOp (.Constant (.int 256) 0 p2) .Pow (.Name (Str.ofString "size") p3) p4, .Name (Str.ofString "size") p5] [] p6) (lamS [((Str.ofString "size"), .free), ((Str.ofString "put_whole"), .globalImplicit)]) [((Str.ofString "size"), cS)] pm cdv ctv))
  (hcd : s.heap.CodeRec cdv qual) (hcs : s.heap.IsCell cS (some (.int size ts))) (hs1 : 1 ≤ size) (hs8 : size ≤ 8)
  (hR : ∀ e dx od h' tk, IsQ od → FlyD base s.heap l e 31 dx od h' → R (.error (.ref e)) { s with heap := h', toks := tk }) :
  codeAny (model PySem.Challenge.rw_no0060_01.row.prog w) A (.call (.ref f) ⟨[], []⟩) R s := by
  have hfill : (Mine.hd.heap_1 w.params).In s.heap → PySem.Challenge.rw_no0060_01 = PySem.Challenge.rw_no0060_01 := by k_fill; intro _; rfl
  clear hfill
  refine enterL G (by decide) ho hdata hcd rfl (fun L' h₁ F N B X T => ?_) rfl rfl rfl (by decide)
  (try k_lift B)
  (repeat' (first | (k_unfold; (try dsimp only)) | (k_end; wrow_close) | ((with_reducible show wpAny _ _ (call (Value.ref 62) _) _ _ _); first | (with_reducible ((rename Fr _ _ _ _ => F3); (refine wpAny_call (pw_R w (Gr.pushX G B F3 rfl rfl (by decide) (by decide)) hs1 hs8 (Int.le_of_lt (Int.pow_pos (by decide))) (pw_pow hs1) fun e dx od h' tk hod FD => leave_onX B F3 rfl FD fun h'' FD' => hR _ _ _ _ _ hod FD')))) | ((rename Fr _ _ _ _ => F3); (refine wpAny_call (pw_R w (Gr.pushX G B F3 rfl rfl (by decide) (by decide)) hs1 hs8 (Int.le_of_lt (Int.pow_pos (by decide))) (pw_pow hs1) fun e dx od h' tk hod FD => leave_onX B F3 rfl FD fun h'' FD' => hR _ _ _ _ _ hod FD')))) | ((with_reducible show wpAny _ _ (eval (Expr.Name _ _) _) _ _ _); first | (with_reducible ((rename Fr _ _ _ _ => F3); (with_unfolding_all refine' name_free (s₀ := s) ?z0 F3.keep ?z1 ?z2 ?z3 ?_ ?z4 ?z5; (case z1 => rfl); (case z2 => rfl); (case z3 => rfl); (case z0 => assumption); (case z4 => decide); (case z5 => decide)))) | ((rename Fr _ _ _ _ => F3); (with_unfolding_all refine' name_free (s₀ := s) ?z0 F3.keep ?z1 ?z2 ?z3 ?_ ?z4 ?z5; (case z1 => rfl); (case z2 => rfl); (case z3 => rfl); (case z0 => assumption); (case z4 => decide); (case z5 => decide)))) | walk1 | (dsimp only; walk1) | (leave1; (try dsimp only)) | fail "no step"))
end Mine
end

section
open PySem PySem.W PySem.Spec PySem.Calls PyProof.Rows
set_option maxRecDepth 100000
set_option maxHeartbeats 8000000
namespace Mine
theorem lv_c (w : World) {mean : ExcName → Option Value} {mg mb : Str → Option Value} {A : Around} {base : Heap} {l : List Env} {s : Shared} {R : Result → Shared → Prop} {b : Array UInt8} {ks : List Int} {v : Tok} (G : Gr w mean mg mb 358 190 A base l s)
  (hb : KBw.bInts b = ks) (hlen : ks.length ≤ 100)
  (hR : ∀ tb h' tk, (∀ x o, s.heap.get? x = some o → h'.get? x = some o) → s.heap.objs.size ≤ h'.objs.size → R (.ok (.ret (.int (bv ks) tb))) { s with heap := h', toks := tk }) :
  codeAny (model PySem.Challenge.rw_no0060_01.row.prog w) A (.call (.ref 165) ⟨[.bytes b v], []⟩) R s := by
  have hfill : (Mine.hd.heap_1 w.params).In s.heap → PySem.Challenge.rw_no0060_01 = PySem.Challenge.rw_no0060_01 := by k_fill; intro _; rfl
  clear hfill
  refine' enterP G (by decide) ?ho ?hcd ?hbind ?hloc ?_ ?c2 ?c3 ?c4 ?c5; (case ho => k_is); (case hcd => k_is); (case hbind => exact BindsTo.of_eq rfl); (case c5 => decide); (case hloc => exact locs rfl); (case c2 => exact rfl); (case c3 => exact rfl); (case c4 => exact rfl); k_whole; intro L' h₁ F N B X T; (try dsimp only); (try k_lift B); (try k_fold)
  k_steps
  rename Fr _ _ _ _ => F4
  exact hR _ _ _ F4.keep (Nat.le_of_lt (Nat.lt_of_le_of_lt F4.above F4.ns.lt))
end Mine
end

section
open PySem PySem.W PySem.Spec PySem.Calls PyProof.Rows
set_option maxRecDepth 100000
set_option maxHeartbeats 8000000
namespace Mine

section
variable {prog : Program} {w : World} {A : Around} {E : Value → Shared → Prop} {s : Shared} {h₀ h : Heap} {L b : Addr} {m : Str → Option Value} {news : List (Addr × Obj)}
theorem my_item {value slice : PySem.Expr} {l : Addr} {items : List Value} {n : Nat} {k : Int} {u : Tok} {v : Value} {Q : Value → Shared → Prop}
    (N : News h₀ L s.heap news) (hm : (l, listOf items.toArray n) ∈ news) (h0 : 0 ≤ k) (hhi : k < 2 ^ 63) (hx : items[k.toNat]? = some v) (h : Q v s)
    (hs : subscripted slice false (.ref l) (.int k u) = operate [.ref l, .int k u] (getItem (.ref l) (.int k u)) := by with_unfolding_all rfl) :
    wpAny (model prog w) A (subscriptTail value slice (.ref l) (.int k u)) Q E s :=
  have hl := PySem.IsL.isList (n := n) (N _ hm).1
  tail_any hl.typeIs slot_list_getitem.lookup (wpAny_getItem_list hl h0 hhi (by simpa using hx) h) hs
noncomputable def putAt (b : Addr) (o : Obj) (news : List (Addr × Obj)) : List (Addr × Obj) := news.map fun p => if p.1 = b then (b, o) else p
theorem putAt_mem {o o' : Obj} (hb : (b, o) ∈ news) : (b, o') ∈ putAt b o' news := List.mem_map.mpr ⟨_, hb, by simp⟩
theorem putAt_mem' {c : Addr} {o oc : Obj} (hc : (c, oc) ∈ news) (ne : c ≠ b) : (c, oc) ∈ putAt b o news := List.mem_map.mpr ⟨_, hc, by simp [ne]⟩
theorem putAt_news {o' : Obj} {f : Obj → Obj} {o : Obj} (N : News h₀ L h news) (hb : (b, o) ∈ news) (e : f o = o') (hf : o'.isFreed = false) : News h₀ L (h.update b f) (putAt b o' news) := fun p hp => by
  obtain ⟨q, hq, rfl⟩ := List.mem_map.mp hp
  by_cases e' : q.1 = b
  · simp only [e', if_true]
    exact ⟨e ▸ Heap.get?_update_self _ (N _ hb).1 (e ▸ hf), (N _ hb).2⟩
  · simp only [e', if_false]
    exact ⟨(Heap.get?_update_ne _ _ _ _ e').trans (N q hq).1, (N q hq).2⟩
theorem putAt_upd {o o' : Obj} {news' : List (Addr × Obj)} (N : News h₀ L h (putAt b o' news)) (U : Upd b o o' news news') : News h₀ L h news' := fun p hp => by
  obtain ⟨pre, post, rfl, rfl, h1, h2⟩ := U.split
  rcases List.mem_append.mp hp with q | q
  · exact N p (putAt_mem' (List.mem_append_left _ q) (h1 p q))
  · rcases List.mem_cons.mp q with rfl | q
    · exact N (b, o') (putAt_mem (o := o) (List.mem_append.mpr (.inr (.head _))))
    · exact N p (putAt_mem' (List.mem_append.mpr (.inr (.tail _ q))) (h2 p q))
theorem my_set {c : Addr} {oc : Obj} {items : List Value} {n : Nat} {k x : Int} {t u : Tok} {Q : Unit → Shared → Prop} (F : Fr h₀ L s.heap m) (N : News h₀ L s.heap news) (hm : (b, listOf items.toArray n) ∈ news) (h0 : 0 ≤ k) (hfit : k < 2 ^ 63) (hn : k < items.length) (ne : c ≠ b) (hc : (c, oc) ∈ news)
    (h : ∀ h' u', Fr h₀ L h' m → News h₀ L h' (putAt b (listOf (items.set k.toNat (.int x u')).toArray n) news) → (b, listOf (items.set k.toNat (.int x u')).toArray n) ∈ putAt b (listOf (items.set k.toNat (.int x u')).toArray n) news → (c, oc) ∈ putAt b (listOf (items.set k.toNat (.int x u')).toArray n) news → Q () { s with heap := h' }) :
    wpAny (model prog w) A (setItem (.ref b) (.int k t) (.int x u)) Q E s := by
  have z := N _ hm
  refine PySem.W.ki_setAt z.1 h0 hfit (by simpa using hn) (h _ u (F.change (Heap.SameBut.update ..) z.2.1 z.2.2) (putAt_news N hm ?_ rfl) (putAt_mem hm) (putAt_mem' hc ne))
  have q := PySem.IsL.update z.1 (·.setIfInBounds k.toNat (.int x u))
  have q2 := Heap.get?_update_self (Obj.mapSeq (·.setIfInBounds k.toNat (.int x u))) z.1 rfl
  rw [q] at q2
  simp at q2
  rw [← q2]
end

local macro_rules | `(tactic| is_list) => `(tactic| exact PySem.IsL.isList (News.get (by assumption) (by k_mem)))
theorem take_c (w : World) {mean : ExcName → Option Value} {mg mb : Str → Option Value} (dp un : Nat) (gd : Option (List Code)) (cn : Str) (cs : Scope) (a : Addr) (ccd : Value) (cl : List (Str × Addr)) (outer : List Env) (A₀ : Around) (base h₀ : Heap) (L : Addr) (m : Str → Option Value) (s : Shared) (Q E : Value → Shared → Prop) (news : List (Addr × Obj))
    (b c : Addr) (k r many : Int) (tk tr tm : Tok) (n n' : Nat) (vs : List Value) (ns : List Int)
    (B : Below A₀ base outer h₀) (F : Fr h₀ L s.heap m) (X : (Mine.hd.heap_1 w.params).In h₀) (N : News h₀ L s.heap news) (T : Top topProg LL mean mg mb h₀) (hk : cs.kind = .function)
    (hb : (b, listOf #[.ref c, .int k tk, .int r tr] n) ∈ news) (hc : (c, listOf vs.toArray n') ∈ news) (hi : IntsAre vs ns) (h0 : ∀ x ∈ ns, 0 ≤ x) (hne : c ≠ b) (hlen : ns.length ≤ 24) (k0 : 0 ≤ k) (k1 : k < 2 ^ 40) (r0 : 0 ≤ r) (r1 : r < 2 ^ 40) (m0 : 1 ≤ many) (m1 : many < 2 ^ 20)
    (hd : dp + 5 < recursionLimit) (hu : un + 20 < cLine)
    (hret : ∀ (v : Int) (t t' : Tok) (h' : Heap) (tk' : Nat), 0 ≤ v → v < many → Fr h₀ L h' m → (∀ news', Upd b (listOf #[.ref c, .int k tk, .int r tr] n) (listOf #[.ref c, .int (k + 1) t', .int r tr] n) news news' → News h₀ L h' news') → Q (.int v t) { s with heap := h', toks := tk' }) :
    wpAny (model prog w) (ktrTop dp un gd cn cs L a ccd cl outer) (call (.ref 158) [.ref b, .int many tm]) Q E s := by
  have hfill : (Mine.hd.heap_1 w.params).In h₀ → PySem.Challenge.rw_no0060_01 = PySem.Challenge.rw_no0060_01 := by k_fill; intro _; rfl
  clear hfill
  refine wpAny_call ?_
  k_dflt cell_enter
  (repeat' (first | (k_unfold; (try dsimp only)) | (k_end; wrow_close) | ((with_reducible show wpAny _ _ (setItem (Value.ref _) (Value.int _ _) _) _ _ _); first | (with_reducible ((with_unfolding_all refine' my_set ?k1 ?k2 ?k3 ?k4 ?k5 ?k6 ?k7 ?k8 ?_; (case k1 => k_asm); (case k2 => k_asm); (case k3 => k_mem); (case k4 => decide); (case k5 => decide); (case k6 => (simp only [List.length_cons, List.length_nil]; omega)); (case k7 => assumption); (case k8 => k_mem); k_whole); intro h' u' F' N' M' M2'; (try simp only [Int.toNat_one, List.set_cons_succ, List.set_cons_zero] at N' M' M2'); (try k_sweep))) | ((with_unfolding_all refine' my_set ?k1 ?k2 ?k3 ?k4 ?k5 ?k6 ?k7 ?k8 ?_; (case k1 => k_asm); (case k2 => k_asm); (case k3 => k_mem); (case k4 => decide); (case k5 => decide); (case k6 => (simp only [List.length_cons, List.length_nil]; omega)); (case k7 => assumption); (case k8 => k_mem); k_whole); intro h' u' F' N' M' M2'; (try simp only [Int.toNat_one, List.set_cons_succ, List.set_cons_zero] at N' M' M2'); (try k_sweep))) | ((with_reducible show wpAny _ _ (subscriptTail _ _ (Value.ref _) (Value.int _ _)) _ _ _); first | (with_reducible ((with_unfolding_all refine' my_item ?k1 ?k2 ?k3 ?k4 ?k5 ?_ ?k6; (case k1 => k_asm); (case k2 => k_mem); (case k3 => decide); (case k4 => decide); (case k5 => rfl); (case k6 => with_unfolding_all rfl); k_whole))) | ((with_unfolding_all refine' my_item ?k1 ?k2 ?k3 ?k4 ?k5 ?_ ?k6; (case k1 => k_asm); (case k2 => k_mem); (case k3 => decide); (case k4 => decide); (case k5 => rfl); (case k6 => with_unfolding_all rfl); k_whole))) | walk1 | (dsimp only; walk1) | (leave1; (try dsimp only)) | fail "no step"))
  · exact hret _ _ _ _ _ (Int.fmod_nonneg_of_pos _ (by omega)) (Int.fmod_lt_of_pos _ (by omega)) (by assumption) (fun news' U => putAt_upd (by assumption) U)
  · exact hret _ _ _ _ _ (Int.fmod_nonneg_of_pos _ (by omega)) (Int.fmod_lt_of_pos _ (by omega)) (by assumption) (fun news' U => putAt_upd (by assumption) U)
end Mine
end

section
open PySem PySem.W PySem.Spec PySem.Calls PyProof.Rows
set_option maxRecDepth 100000
set_option maxHeartbeats 8000000
namespace Mine
open PyProof.Rows.LCg PyProof.Rows.LCt
noncomputable def STup (ax : Addr) (its : Array Value) (news : List (Addr × Obj)) : Prop := False ∨ ∃ o, (ax, o) ∈ news ∧ o.cls = .type "tuple" ∧ ∃ n, o.data = .seq its n
section
variable {prog : Program} {w : World} {A : Around} {E : Value → Shared → Prop} {s : Shared} {h₀ : Heap} {L : Addr} {m : Str → Option Value} {env : Env}
theorem STup.tup {h : Heap} {ax : Addr} {its : Array Value} {news : List (Addr × Obj)} (x : STup ax its news) (N : News h₀ L h news) : h.IsTuple ax its := by
  rcases x with q | ⟨o, hm, r⟩
  · exact q.elim
  · exact ⟨o, (N _ hm).1, r⟩
theorem tup_st {ax I : Addr} {its : Array Value} : ∀ i (h h' : Heap) (o : Obj) (nw : List (Addr × Obj)), (h.IsTupleIter I ax i ∧ h.IsTuple ax its) → h.get? I = some o → h'.get? I = some o → (∀ b o, h₀.get? b = some o → h'.get? b = some o) → News h₀ L h' nw → STup ax its nw → (h'.IsTupleIter I ax i ∧ h'.IsTuple ax its) :=
  fun i h h' o nw st e e' _ N S => ⟨by obtain ⟨o', q, r⟩ := st.1; rw [e] at q; cases q; exact ⟨o, e', r⟩, S.tup N⟩
noncomputable def CompSrcTT (prog : Program) (w : World) (A : Around) (h₀ : Heap) (L : Addr) (m : Str → Option Value) (env : Env) (ct elt : Expr) (x : Str) (scope : Scope) (cl : List (Str × Addr)) (Fin : Shared → List Value → List (Addr × Obj) → Prop) (xv : Value) (s₁ : Shared) : Prop :=
  ∃ ax its news, xv = .ref ax ∧ A.handled = none ∧ Fr h₀ L s₁.heap m ∧ News h₀ L s₁.heap news ∧ STup ax its news ∧ its.size ≤ sizeLine ∧
    ∀ s₂ : Shared, (∃ h, s₂ = { s₁ with heap := h }) → CompRestT prog w A h₀ L m env ct elt x scope cl s₂ (STup ax its) (fun i v => its[i]? = some v) (Fin s₂) its.size 0 [] news
theorem CompSrcTT.ledger {ct elt : Expr} {x : Str} {scope : Scope} {cl : List (Str × Addr)} {Fin : Shared → List Value → List (Addr × Obj) → Prop} {ax : Addr} {its : Array Value} {k n : Nat} {news : List (Addr × Obj)} {s₁ : Shared}
    (hh : A.handled = none) (F : Fr h₀ L s₁.heap m) (N : News h₀ L s₁.heap news) (hm : (ax, ({ cls := .type "tuple", data := .seq its k } : Obj)) ∈ news) (hsz : its.size ≤ sizeLine) (en : its.size = n)
    (h : ∀ g, CompRestT prog w A h₀ L m env ct elt x scope cl { s₁ with heap := g } (STup ax its) (fun i v => its[i]? = some v) (Fin { s₁ with heap := g }) n 0 [] news) :
    CompSrcTT prog w A h₀ L m env ct elt x scope cl Fin (.ref ax) s₁ := ⟨ax, its, news, rfl, hh, F, N, .inr ⟨_, hm, rfl, _, rfl⟩, hsz, fun _ ⟨g, e⟩ => by subst e; rw [en]; exact h g⟩
theorem ListComp_TT {ct elt iter : Expr} {x : Str} {px : Pos} {scope : Scope} {cl : List (Str × Addr)} {pos : Pos} {Q : Value → Shared → Prop} (F₀ : Fr h₀ L s.heap m)
    (hclos : closureFor scope env = pure cl) (hcell : ∀ y ∈ scope.names, y.2 ≠ .cell) (hkind : scope.kind = .function)
    (hnames : ∀ y ∈ scope.names, y.2 = .local → scope.names.lookup y.1 = some .local) (hx : scope.names.lookup x = some .local)
    (h : wpAny (model prog w) A (eval iter env) (CompSrcTT prog w A h₀ L m env ct elt x scope cl (fun s₂ => FinE h₀ L m s₂ Q)) E s)
    (hs : ∀ x, foldedSetIterable iter env x = pure x := by intro _; rfl) :
    wpAny (model prog w) A (eval (.ListComp elt [⟨.Name x px, iter, [ct], 0⟩] scope pos) env) Q E s := by
  have _ := F₀
  rw [eval_ListComp]
  refine wpAny_comprehension_free (use := none) rfl hs hclos hkind hnames (wpAny_mono h (fun xv s₁ h₁ => ?_) fun _ _ e => e)
  obtain ⟨ax, its, news, rfl, hh, F, N, S, hsz, R⟩ := h₁
  have hl := S.tup N
  have hlt : ax < s₁.heap.objs.size := by obtain ⟨_, e, _⟩ := hl; exact Heap.lt_size e
  refine wpAny_pyIter_tuple hl ?_
  have up : ∀ b o, s₁.heap.get? b = some o → (s₁.heap.push { cls := .type "tuple_iterator", data := .fields #[.ref ax, .int 0 0] }).get? b = some o := fun b o e => Heap.get?_push_of_some _ e
  refine block_T (Walks.tuple hh s₁.heap.objs.size ax (Nat.ne_of_lt hlt) its) hsz (fun i h st => by obtain ⟨o, e, _⟩ := st.1; exact ⟨o, e⟩) tup_st hcell hkind hx ⟨⟨_, Heap.get?_push_size _ rfl, rfl, rfl⟩, hl.push _⟩ (fun b hb => ?_)
    (F.keeps up) (N.grown up) (Nat.ne_of_lt F.ns.lt) (next_is_new F) (fun p hp => Nat.ne_of_lt (Heap.lt_size (N p hp).1)) S (R _ ⟨_, rfl⟩) ?_
  · show b < (s₁.heap.push _).objs.size
    rw [Heap.size_push]
    rcases List.mem_cons.mp hb with rfl | hb
    · exact Nat.lt_succ_self _
    · rw [List.mem_singleton.mp hb]; exact Nat.lt_succ_of_lt hlt
  · intro D C h tk m' ys news' F' N' o1 hn hC₀ hD₀ hCL hDL hCD offC fin
    refine ⟨m', hn, fun h'' hs'' => fin D h'' tk (F'.change hs'' hCL hC₀) (fun p hp => ?_) o1⟩
    refine ⟨hs''.extBut _ _ ?_ (N' p hp).1, (N' p hp).2⟩
    rcases List.mem_cons.mp hp with rfl | hp
    · exact Ne.symm hCD
    · exact offC p hp
end
end Mine
end

section
open PySem PySem.W PySem.Spec PySem.Calls PyProof.Rows
set_option maxRecDepth 100000
set_option maxHeartbeats 2000000
namespace Mine
section
variable {prog : Program} {w : World} {A : Around} {s : Shared} {R : Result → Shared → Prop}
theorem codeC_call_function {a : Addr} {args : Args} {o : Obj} {fd : FuncData} {body : List Stmt} (hroom : A.depth < recursionLimit) (ho : s.heap.get? a = some o)
    (hd' : o.data = .func fd) (hco : fd.scope.isCoroutine = false) (hgen : fd.scope.isGenerator = false) (hbody : fd.body = .stmts body) (hcd : s.heap.CodeRec fd.code fd.qualname)
    (h : wpAny (model prog w) A.in1 (bindArgs fd args) (fun binds s₁ =>
      wpAny (model prog w) A.in1 (newFunctionEnv fd.scope fd.globals fd.closure binds (fd.qualname ++ ".<locals>.") (some a) fd.code none fd.builtins)
        (fun env s₂ => s₂.heap.NoLimit ∧ codeC (model prog w) A (.func body env) R s₂) (fun e s' => R (.error e) s') s₁) (fun e s' => R (.error e) s') s) :
    codeC (model prog w) A (.call (.ref a) args) R s := by
  refine codeC_of_tree ?_
  show wpC _ A.in1 (callAny (.ref a) args) _ _ s
  simp only [callAny]
  refine wpC_bind_any (wpAny_load ho ?_)
  obtain ⟨c, oc, vs, tq, hc, hoc, hdc, hq⟩ := hcd
  simp only [hd', callFunction, hco, hgen, hbody, hc]
  rw [hc] at h
  refine wpC_bind_any (m := field (.ref c) 1) (wpAny_field hoc hdc hq (wpC_bind (wpC_pure ?_)))
  exact wpC_bind_any (wpAny_mono h (fun binds s₁ h₁ => wpC_bind_any (wpAny_mono h₁ (fun env s₂ h₂ => wpC_bind_any (wpAny_enterFrame h₂.1 hroom
    (wpC_pure ⟨rfl, rfl, h₂.2⟩))) fun _ _ h' => h')) fun _ _ h' => h')
end
section
variable {w : World} {mean : ExcName → Option Value} {mg mb : Str → Option Value} {A : Around} {base : Heap} {l : List Env} {s : Shared} {D U : Nat}
/-- a def with cells is entered; what hid stands in the ledger, the rest is its ground -/
theorem enterCC {R : Result → Shared → Prop} {name qual : Str} {params : Arguments} {body : List Stmt} {scope : Scope} {dV kV doc pm cdv ct oc : Value} {an od : Option Addr} {osl : Array (Option Value)} {f : Addr} {args : Args} {binds : List (Str × Value)} {hid : List (Addr × Obj)}
    (G : Gr w mean mg mb D U A base l s) (hD : D < recursionLimit)
    (ho : (Mine.hd.heap_1 w.params).lookup f = some ⟨oc, od, .func (fnOf name qual params body scope dV kV doc pm an cdv ct), osl⟩) (hcd : codeIn (Mine.hd.heap_1 w.params) cdv qual = true)
    (hbind : BindsTo s (fnOf name qual params body scope dV kV doc pm an cdv ct) args binds) (hkind : (binds.all fun y => scope.names.lookup y.1 == some .local || scope.names.lookup y.1 == some .cell) = true)
    (hnd : ((cellsFrom 0 scope.names []).map (·.1)).Nodup)
    (hh : ∀ p ∈ hid, s.heap.get? p.1 = some p.2 ∧ base.get? p.1 = none ∧ p.1 ∉ l.filterMap (·.frame))
    (h : ∀ L' h₁ tk cells, Fr (hideAll s.heap (hid.map (·.1))) L' h₁ (bindL (envOfC qual scope L' f cdv).kindOf binds fun _ => none) → News (hideAll s.heap (hid.map (·.1))) L' h₁ (cells ++ hid) →
      CellsAre (bindC (envOfC qual scope L' f cdv).kindOf binds fun _ => none) (cellsFrom (L' + 1) scope.names []) cells → Below (zA D U l A.guards) base l (hideAll s.heap (hid.map (·.1))) → (Mine.hd.heap_1 w.params).In (hideAll s.heap (hid.map (·.1))) → Top topProg LL mean mg mb (hideAll s.heap (hid.map (·.1))) → (∀ p ∈ hid, p.1 < L') →
      wpC (model PySem.Challenge.rw_no0060_01.row.prog w) ((zA D U l A.guards).deeper (envOfC qual scope L' f cdv)) (execs body (envOfC qual scope L' f cdv)) (fun fl s' => R (.ok (.ret (match fl with | .ret v => v | _ => .none))) s') NoE { s with heap := h₁, toks := tk })
    (hco : scope.isCoroutine = false) (hgen : scope.isGenerator = false) (hk : scope.kind = .function) : Mine.codeC (model PySem.Challenge.rw_no0060_01.row.prog w) A (.call (.ref f) args) R s := by
  have hm : ∀ b, b ∈ hid.map (·.1) → base.get? b = none ∧ b ∉ l.filterMap (·.frame) := fun b hb => by
    obtain ⟨p, hp, rfl⟩ := List.mem_map.mp hb
    exact (hh p hp).2
  have st : base.StaysIn (hideAll s.heap (hid.map (·.1))) := fun b o e => hideAll_get _ (G.below.stays b o e) fun hb => by
    rw [(hm b hb).1] at e
    cases e
  have B' : Below (zA D U l A.guards) base l (hideAll s.heap (hid.map (·.1))) := ⟨rfl, st, funFrames_hideAll G.below.frames fun env he b hb hf => (hm b hb).2 (List.mem_filterMap.mpr ⟨env, he, hf⟩)⟩
  refine G.codeC (codeC_call_function (fd := fnOf name qual params body scope dV kV doc pm an cdv ct) hD (G.Ks _ _ ho) rfl hco hgen rfl (codeRec_of G.Ks hcd) (hbind _ _ _ _ ?_))
  refine wpAny_newFunctionEnv_cells hk (kindsX hkind _) fun env' he s' x => ?_
  subst he
  refine ⟨(G.tops.nolimit).keeps x.toInCall.keep, codeC_func ?_⟩
  obtain ⟨h₁, tk, rfl, _⟩ := x.done
  have hk₁ := x.toInCall.keep
  obtain ⟨cells, NC, Y⟩ := Cl.news (h₀ := s.heap) (Nat.le_refl _) fun n c hm => ⟨x.cell n c (lookup_of_mem_nodup (cellsFrom_names scope.names 0 (s.heap.objs.size + 1) [] [] rfl ▸ hnd) hm), x.above n c hm⟩
  refine h s.heap.objs.size h₁ tk cells ⟨x.toInCall.ns, fun b o e => hk₁ b o (of_hideAll _ e), Nat.le_of_eq (hideAll_size _ _)⟩ (fun p hp => ?_) Y B' (G.K.keeps st) (G.top.keeps st) (fun p hp => Heap.lt_size (hh p hp).1)
  rcases List.mem_append.mp hp with hp | hp
  · refine ⟨(NC p hp).1, (NC p hp).2.1, ?_⟩
    cases q : (hideAll s.heap (hid.map (·.1))).get? p.1 with
    | none => rfl
    | some o => have := of_hideAll _ q; rw [(NC p hp).2.2] at this; cases this
  · exact ⟨hk₁ _ _ (hh p hp).1, Nat.ne_of_lt (Heap.lt_size (hh p hp).1), hideAll_none _ (List.mem_map_of_mem hp)⟩
end
end Mine
end

section
open PySem PySem.W PySem.Spec PySem.Calls PyProof.Rows
set_option maxRecDepth 100000
set_option maxHeartbeats 8000000
namespace Mine
/-- every code that the table holds stands in the ledger's tail -/
noncomputable def TabI (qual : Str) (ps : Array Value) (nt : List (Addr × Obj)) : Prop :=
  TriplesOk ps.toList ∧ ∀ pos c, codeAmong pos ps.toList = some c → ∃ c' oc vs t, c = .ref c' ∧ (c', oc) ∈ nt ∧ oc.data = .fields vs ∧ vs[1]? = some (.str qual t)
theorem among_snoc {pos : Pos} {a b : Int} {c x : Value} (l : List Value) (h : TriplesOk l) (e : codeAmong pos (l ++ [rawInt a, rawInt b, c]) = some x) : codeAmong pos l = some x ∨ x = c := by
  fun_induction TriplesOk l with
  | case1 =>
    simp only [List.nil_append, rawInt, codeAmong] at e
    split at e
    · exact .inr (Option.some.inj e).symm
    · cases e
  | case2 a' t b' u y rest ih =>
    simp only [List.cons_append, codeAmong] at e ⊢
    split at e
    · rename_i q
      rw [if_pos q]
      exact .inl e
    · rename_i q
      rw [if_neg q]
      exact ih h e
  | case3 => exact h.elim
theorem TabI.nil {qual : Str} {nt : List (Addr × Obj)} : TabI qual #[] nt := ⟨trivial, fun pos c e => by cases (show (none : Option Value) = some c from e)⟩
theorem updF_app {d : Addr} {o : Obj} {nt : List (Addr × Obj)} (hP : ∀ q ∈ nt, q.1 ≠ d) : ∀ {l : List (Addr × Obj)} {g : Obj → List (Addr × Obj)}, UpdF d o l g → UpdF d o (l ++ nt) (fun o' => g o' ++ nt)
  | _, _, .head h => .head fun p hp => by
    rcases List.mem_append.mp hp with hp | hp
    · exact h p hp
    · exact hP p hp
  | _, _, .tail h r => .tail h (updF_app hP r)
theorem lam_make {M : Model} {A : Around} {E : Value → Shared → Prop} {s : Shared} {h₀ : Heap} {L a c P : Addr} {m mg mb : Str → Option Value} {cn : Str} {cs : Scope} {ccd : Value} {cl : List (Str × Addr)} {pre nt nt0 : List (Addr × Obj)} {gg : Obj → List (Addr × Obj)}
    {p : Program} {loose : List Str} {mean : ExcName → Option Value} {params : Arguments} {body : PySem.Expr} {scope : Scope} {ps : Array Value} {pos : Pos} {clos : List (Str × Addr)} {qual : Str} {Q : Value → Shared → Prop}
    (F : Fr h₀ L s.heap m) (N : News h₀ L s.heap (pre ++ nt)) (T : Top p loose mean mg mb h₀) (C : CodeHd h₀ c P) (hcd : ccd = .ref c) (U : UpdF P (tabObj ps) pre gg) (I : TabI qual ps nt0) (hsub : ∀ q ∈ nt0, q ∈ nt) (hP : ∀ q ∈ nt, q.1 ≠ P)
    (hdef : defaultsOf params (envX cn cs L a ccd cl) = ([], [])) (hq : (envX cn cs L a ccd cl).qual ++ "<lambda>" = qual) (hcl : closureFor scope (envX cn cs L a ccd cl) = pure clos)
    (h : ∀ f c' ctv ps' ce h' tk, Fr h₀ L h' m → News h₀ L h' ((f, kla_obj "<lambda>" qual params body scope clos ((mg "__name__").getD .none) c' ctv) :: (gg (tabObj ps') ++ (ce ++ nt))) → h'.CodeRec (.ref c') qual → TabI qual ps' (ce ++ nt0) →
      (∀ r ∈ ce, ∀ q ∈ pre ++ nt, @LT.lt Nat _ q.1 r.1) → (∀ q ∈ pre ++ nt, q.1 < f) → Q (.ref f) { s with heap := h', toks := tk }) :
    wpAny M A (eval (.Lambda params body scope pos) (envX cn cs L a ccd cl)) Q E s := by
  subst hq
  refine kla_eval hdef ?_
  have U2 : UpdF P (tabObj ps) (pre ++ nt) (fun o => gg o ++ nt) := updF_app hP U
  cases hca : codeAmong pos ps.toList with
  | none =>
    refine kla_nest F N T C hcd U2 I.1 hca hcl fun f c' oc vs t ctv h' tk F' N' d1 d2 l1 l2 => ?_
    have hcr : h'.CodeRec (.ref c') ((envX cn cs L a ccd cl).qual ++ "<lambda>") := ⟨c', oc, vs, t, rfl, (N' _ (.tail _ (.head _))).1, d1, d2⟩
    refine h f c' ctv (ps ++ #[rawInt pos.line, rawInt pos.col, .ref c']) [(c', oc)] h' tk F' (fun q hq => N' q ?_) hcr ⟨?_, fun pos' x e => ?_⟩ (fun r hr q hq => ?_) fun q hq => Nat.lt_trans (l1 q hq) l2
    · rcases List.mem_cons.mp hq with rfl | hq
      · exact .head _
      · rcases List.mem_append.mp hq with hq | hq
        · exact .tail _ (.tail _ (List.mem_append_left _ hq))
        · rcases List.mem_cons.mp hq with rfl | hq
          · exact .tail _ (.head _)
          · exact .tail _ (.tail _ (List.mem_append_right _ hq))
    · rw [Array.toList_append]
      exact TriplesOk_snoc _ _ _ _ I.1
    · rw [Array.toList_append] at e
      rcases among_snoc _ I.1 e with e | rfl
      · obtain ⟨c₂, oc₂, vs₂, t₂, e1, e2, e3, e4⟩ := I.2 pos' x e
        exact ⟨c₂, oc₂, vs₂, t₂, e1, .tail _ e2, e3, e4⟩
      · exact ⟨c', oc, vs, t, rfl, .head _, d1, d2⟩
    · rw [List.mem_singleton.mp hr]
      exact l1 q hq
  | some cv =>
    obtain ⟨c', oc, vs, t, rfl, e2, e3, e4⟩ := I.2 pos cv hca
    obtain ⟨own, rest, hn, hgr, _, _⟩ := U.split
    have hg : gg (tabObj ps) = pre := (hgr _).trans hn.symm
    refine kla_hit F N T C hcd (List.mem_append_left _ (by rw [hn]; exact List.mem_append_right _ (.head _))) I.1 hca hcl fun f ctv h' tk F' N' l1 => ?_
    refine h f c' ctv ps [] h' tk F' (by rw [List.nil_append, hg]; exact N') ⟨c', oc, vs, t, rfl, (N' _ (.tail _ (List.mem_append_right _ (hsub _ e2)))).1, e3, e4⟩ I (fun r hr => nomatch hr) l1
/-- the ground of a frame behind a call that may have turned the frames' slots -/
theorem turned {A₀ : Around} {base g h h' : Heap} {outer : List Env} {env : Env} {L : Addr} {m : Str → Option Value} {news : List (Addr × Obj)} (K : Below A₀ base outer g) (F : Fr g L h m) (N : News g L h news) (hf : env.frame = some L) (R : Turns (env :: outer) h h') :
    ∃ g', KtsTurn (outer.filterMap (·.frame)) g g' ∧ Fr g' L h' m ∧ News g' L h' news ∧ Below A₀ base outer g' := by
  have nL : ∀ b o, g.get? b = some o → b ∉ outer.filterMap (·.frame) → b ∉ (env :: outer).filterMap (·.frame) := fun b o q nm hm => by
    rcases mem_envX hf hm with z | z
    · rw [z, kts_self F] at q; cases q
    · exact nm z
  obtain ⟨T, S⟩ := kts_turn_at (h := h') (fs := outer.filterMap (·.frame)) (g := g)
    (fun b hb => by
      obtain ⟨_, o, ho, _⟩ := K.frames.mem hb
      exact ⟨o, ho⟩)
    (fun b o e nm => R.keep b o (F.keep b o e) (nL b o e nm))
    (fun b o e hm => by
      obtain ⟨_, o', ho', hd⟩ := K.frames.mem hm
      rw [e] at ho'
      cases ho'
      exact R.slots b o (F.keep b o e) hd)
  refine ⟨_, T, ⟨R.slots.ns F.ns, S, by rw [T.size]; exact F.above⟩, fun p hp => ⟨R.keep _ _ (N p hp).1 fun hm => ?_, (N p hp).2.1, T.none_ _ (N p hp).2.2⟩, ⟨K.stack, fun b o e => T.other b o (K.stays b o e) (fun hm => by
    rw [(K.frames.mem hm).1] at e
    cases e), K.frames.of_keeps fun b o e _ => ?_⟩⟩
  · rcases mem_envX hf hm with z | z
    · exact (N p hp).2.1 z
    · obtain ⟨_, o', ho', _⟩ := K.frames.mem z
      rw [(N p hp).2.2] at ho'
      cases ho'
  · obtain ⟨sl, hs⟩ := T.up e
    exact ⟨_, hs, rfl⟩
theorem mem_allLt {d : Addr} : ∀ {l : List (Addr × Obj)}, AllLt d l → ∀ p ∈ l, @LT.lt Nat _ p.1 d
  | [], _ => fun _ h => nomatch h
  | _ :: _, h => fun p hp => by
    rcases List.mem_cons.mp hp with rfl | hp
    · exact h.1
    · exact mem_allLt h.2 p hp
end Mine
end

section
open PySem PySem.W PySem.Spec PySem.Calls PyProof.Rows
set_option maxRecDepth 100000
set_option maxHeartbeats 8000000
namespace Mine
noncomputable def nrScope : Scope := fscope nrSt
noncomputable abbrev nrEnv (L : Addr) : Env := envOfC (Str.ofString "_law_number_right") nrScope L 177 (.ref 176)
/-- the walk stands in _law_number_right -/
structure NrAt (w : World) (mean : ExcName → Option Value) (mg mb : Str → Option Value) (gd : Option (List Code)) (base g0 g : Heap) (l : List Env) (L b c : Addr) (x : Int) (tx : Tok) (oN oS oA oC ob oc ot : Obj) (nt : List (Addr × Obj)) (m : Str → Option Value) (h : Heap) : Prop where
  F : Fr g L h m
  N : News g L h ((L + 1 + 1 + 1 + 1, oC) :: (L + 1 + 1 + 1, oA) :: (L + 1 + 1, oS) :: (L + 1, oN) :: (b, ob) :: (c, oc) :: (174, ot) :: nt)
  B : Below (zA 353 175 l gd) base l g
  X : (Mine.hd.heap_1 w.params).In g
  T : Top topProg LL mean mg mb g
  lt : @LT.lt Nat _ b L ∧ @LT.lt Nat _ c L ∧ @LT.lt Nat _ 174 L
  ne : @Ne Nat c b ∧ @Ne Nat c 174 ∧ @Ne Nat b 174
  dN : oN.data = .cell (some (.int x tx))
  x0 : 0 ≤ x
  x1 : x < 4611686018427387904
  G : ∃ A s₀, Gr w mean mg mb 353 175 A base l s₀
  tn : KtsTurn (l.filterMap (·.frame)) g0 g
  cd : CodeHd base 176 174
  nt : ∀ p ∈ nt, @Ne Nat p.1 b ∧ @Ne Nat p.1 174 ∧ (@LT.lt Nat _ p.1 L ∨ @LT.lt Nat _ (L + 1 + 1 + 1 + 1) p.1)
theorem pow_num {prog : Program} {w : World} {A : Around} {E : Value → Shared → Prop} {s : Shared} {a b v : Int} {t u : Tok} {Q : Value → Shared → Prop} (h0 : 0 ≤ b) (h1 : b ≤ 64) (ha : a = 2) (e : a ^ b.toNat = v) (h : Q (.int v s.toks) { s with toks := s.toks + 1 }) : wpAny (model prog w) A (binaryOp .Pow (.int a t) (.int b u)) Q E s := by
  subst ha
  subst e
  exact pow_int_small (by omega) (by omega) (by decide) h
theorem nrS0 (w : World) {mean : ExcName → Option Value} {mg mb : Str → Option Value} {gd : Option (List Code)} {base g0 g : Heap} {l : List Env} {s : Shared} {L b c : Addr} {m : Str → Option Value} {Q : Flow → Shared → Prop} {E : Value → Shared → Prop} {x : Int} {tx : Tok} {oN oS oA oC ob oc ot : Obj} {nt : List (Addr × Obj)}
  (H : NrAt w mean mg mb gd base g0 g l L b c x tx oN oS oA oC ob oc ot nt m s.heap)
  (hQ : ∀ t' h' tk', NrAt w mean mg mb gd base g0 g l L b c x tx oN oS oA oC ob oc ot nt (fun y => if y = Str.ofString "least" then some (.int (leastOf x) t') else m y) h' → Q .next { s with heap := h', toks := tk' }) :
  wpAny (model PySem.Challenge.rw_no0060_01.row.prog w) ((zA 353 175 l gd).deeper (nrEnv L)) (exec (stAt nrBody 0) (nrEnv L)) Q E s := by
  have hfill : (Mine.hd.heap_1 w.params).In g → PySem.Challenge.rw_no0060_01 = PySem.Challenge.rw_no0060_01 := by k_fill; intro _; rfl
  clear hfill
  obtain ⟨F, N, B, X, T, ⟨l1, l2, l3⟩, ⟨n1, n2, n3⟩, dN, x0, x1, GG, tn, cd, hnt⟩ := H
  obtain ⟨S, hS⟩ : ∃ S, S = nrScope := ⟨_, rfl⟩
  obtain ⟨st, hst⟩ : ∃ S, S = stAt nrBody 0 := ⟨_, rfl⟩
  unfold nrEnv
  rw [← hS, ← hst]
  conv at hS => rhs; whnf
  conv at hst => rhs; whnf
  subst hS hst
  have hN : ∀ p ∈ ((L + 1 + 1 + 1 + 1, oC) :: (L + 1 + 1 + 1, oA) :: (L + 1 + 1, oS) :: (L + 1, oN) :: (b, ob) :: (c, oc) :: (174, ot) :: nt), p ∈ (L + 1, oN) :: ((L + 1 + 1 + 1 + 1, oC) :: (L + 1 + 1 + 1, oA) :: (L + 1 + 1, oS) :: (L + 1, oN) :: (b, ob) :: (c, oc) :: (174, ot) :: nt) := fun p hp => .tail _ hp
  replace N : News g L s.heap ((L + 1, oN) :: ((L + 1 + 1 + 1 + 1, oC) :: (L + 1 + 1 + 1, oA) :: (L + 1 + 1, oS) :: (L + 1, oN) :: (b, ob) :: (c, oc) :: (174, ot) :: nt)) := fun p hp => by
    rcases List.mem_cons.mp hp with rfl | hp
    · exact N _ (by k_mem)
    · exact N _ hp
  revert N hN hQ
  generalize hg : ((L + 1 + 1 + 1 + 1, oC) :: (L + 1 + 1 + 1, oA) :: (L + 1 + 1, oS) :: (L + 1, oN) :: (b, ob) :: (c, oc) :: (174, ot) :: nt) = ntt
  intro hQ hN N
  have hc : (x < 64 ∧ leastOf x = 1) ∨ (64 ≤ x ∧ x < 16384 ∧ leastOf x = 2) ∨ (16384 ≤ x ∧ x < 1073741824 ∧ leastOf x = 4) ∨ (1073741824 ≤ x ∧ leastOf x = 8) := by
    unfold leastOf
    split
    · exact .inl ⟨by omega, rfl⟩
    · split
      · exact .inr (.inl ⟨by omega, by omega, rfl⟩)
      · split
        · exact .inr (.inr (.inl ⟨by omega, by omega, rfl⟩))
        · exact .inr (.inr (.inr ⟨by omega, rfl⟩))
  rcases hc with ⟨hc, e⟩ | ⟨hc, hc', e⟩ | ⟨hc, hc', e⟩ | ⟨hc, e⟩
  all_goals rw [e] at hQ
  all_goals clear e
  all_goals ((repeat' (first | (k_unfold; (try dsimp only)) | (k_end; wrow_close) | ((with_reducible show wpAny _ _ (binaryOp Operator.Pow (Value.int _ _) (Value.int _ _)) _ _ _); first | (with_reducible (first | (with_reducible refine pow_num (v := 64) (by decide) (by decide) rfl (by decide) ?_) | (with_reducible refine pow_num (v := 16384) (by decide) (by decide) rfl (by decide) ?_) | (with_reducible refine pow_num (v := 1073741824) (by decide) (by decide) rfl (by decide) ?_) | (with_reducible refine pow_num (v := 4611686018427387904) (by decide) (by decide) rfl (by decide) ?_))) | (first | (with_reducible refine pow_num (v := 64) (by decide) (by decide) rfl (by decide) ?_) | (with_reducible refine pow_num (v := 16384) (by decide) (by decide) rfl (by decide) ?_) | (with_reducible refine pow_num (v := 1073741824) (by decide) (by decide) rfl (by decide) ?_) | (with_reducible refine pow_num (v := 4611686018427387904) (by decide) (by decide) rfl (by decide) ?_))) | ((with_reducible show LCg.CompEnd ..); first | (with_reducible (refine LCg.CompEnd.intro (by assumption) (by assumption) _ (fun p hp => hp) (by assumption) (by lcg_src) ?_)) | (refine LCg.CompEnd.intro (by assumption) (by assumption) _ (fun p hp => hp) (by assumption) (by lcg_src) ?_)) | ((with_reducible show CompSrcTT ..); first | (with_reducible (k_dflt (refine CompSrcTT.ledger (by rfl) (by k_asm) (by k_asm) (by k_mem) (by size_fits) (by rfl) ?_; intro g'))) | (k_dflt (refine CompSrcTT.ledger (by rfl) (by k_asm) (by k_asm) (by k_mem) (by size_fits) (by rfl) ?_; intro g'))) | ((with_reducible show wpAny _ _ (eval (Expr.ListComp ..) _) _ _ _); first | (with_reducible (k_dflt (refine ListComp_TT (F₀ := by k_asm) (by with_unfolding_all rfl) (by decide) (by rfl) (by decide) (by rfl) ?_))) | (k_dflt (refine ListComp_TT (F₀ := by k_asm) (by with_unfolding_all rfl) (by decide) (by rfl) (by decide) (by rfl) ?_))) | walk1 | (dsimp only; walk1) | (leave1; (try dsimp only)) | fail "no step")); rename Fr _ _ _ _ => F9; rename News _ _ _ _ => N9; exact hQ _ _ _ ⟨F9, fun p hp => N9 p (.tail _ (.tail _ (.tail _ (hg ▸ hp)))), B, X, T, ⟨l1, l2, l3⟩, ⟨n1, n2, n3⟩, dN, x0, x1, GG, tn, cd, hnt⟩)
end Mine
end

section
open PySem PySem.W PySem.Spec PySem.Calls PyProof.Rows
set_option maxRecDepth 100000
set_option maxHeartbeats 8000000
namespace Mine
theorem u8_inj : ∀ (b c : List UInt8), (b.map fun x => (x.toNat : Int)) = (c.map fun x => (x.toNat : Int)) → b = c
  | [], [], _ => rfl
  | [], _ :: _, h => by cases h
  | _ :: _, [], h => by cases h
  | x :: b, y :: c, h => by
    rw [List.map_cons, List.map_cons] at h
    obtain ⟨h1, h2⟩ := List.cons.inj h
    rw [u8_inj b c h2, UInt8.toNat_inj.mp (Int.ofNat.inj h1)]
theorem bInts_inj {b c : Array UInt8} (h : KBw.bInts b = KBw.bInts c) : b = c := by
  obtain ⟨b⟩ := b
  obtain ⟨c⟩ := c
  rw [u8_inj b c h]
theorem nrS1 (w : World) {mean : ExcName → Option Value} {mg mb : Str → Option Value} {gd : Option (List Code)} {base g0 g : Heap} {l : List Env} {s : Shared} {L b c : Addr} {m : Str → Option Value} {Q : Flow → Shared → Prop} {x : Int} {tx tl : Tok} {oN oS oA oC ob oc ot : Obj} {nt : List (Addr × Obj)}
  (H : NrAt w mean mg mb gd base g0 g l L b c x tx oN oS oA oC ob oc ot nt (fun y => if y = Str.ofString "least" then some (.int (leastOf x) tl) else m y) s.heap)
  (hQ : ∀ h' tk', NrAt w mean mg mb gd base g0 g l L b c x tx oN oS oA oC ob oc ot nt (fun y => if y = Str.ofString "least" then some (.int (leastOf x) tl) else m y) h' → Q .next { s with heap := h', toks := tk' }) :
  wpC (model PySem.Challenge.rw_no0060_01.row.prog w) ((zA 353 175 l gd).deeper (nrEnv L)) (exec (stAt nrBody 1) (nrEnv L)) Q NoE s := by
  have hfill : (Mine.hd.heap_1 w.params).In g → PySem.Challenge.rw_no0060_01 = PySem.Challenge.rw_no0060_01 := by k_fill; intro _; rfl
  clear hfill
  obtain ⟨F, N, B, X, T, ⟨l1, l2, l3⟩, ⟨n1, n2, n3⟩, dN, x0, x1, ⟨A', s₀, G⟩, tn, cd, hnt⟩ := H
  obtain ⟨S, hS⟩ : ∃ S, S = nrScope := ⟨_, rfl⟩
  obtain ⟨st, hst⟩ : ∃ S, S = stAt nrBody 1 := ⟨_, rfl⟩
  unfold nrEnv
  rw [← hS, ← hst]
  conv at hS => rhs; whnf
  conv at hst => rhs; whnf
  subst hS hst
  refine If_C (isTrue_orC (wpC_any ?_))
  (repeat' (first | (k_unfold; (try dsimp only)) | (k_end; wrow_close) | ((with_reducible show wpAny _ _ (call (Value.ref 76) _) _ _ _); first | (with_reducible ((rename Fr _ _ _ _ => F3); (rename News _ _ _ _ => N3); (refine wpAny_call (vs_c w (Gr.pushX G B F3 rfl rfl (by decide) (by decide)) x0 x1 fun tb h' tk hk hz => ?_)); (have F4 := F3.keeps hk); (have N4 := N3.grown hk); clear F3 N3; (try dsimp only))) | ((rename Fr _ _ _ _ => F3); (rename News _ _ _ _ => N3); (refine wpAny_call (vs_c w (Gr.pushX G B F3 rfl rfl (by decide) (by decide)) x0 x1 fun tb h' tk hk hz => ?_)); (have F4 := F3.keeps hk); (have N4 := N3.grown hk); clear F3 N3; (try dsimp only))) | walk1 | (dsimp only; walk1) | (leave1; (try dsimp only)) | fail "no step"))
  rw [bne_self_eq_false]
  dsimp only
  refine allTrue_orC (isTrue_cmpC (Call_C ?_))
  (repeat' (first | (k_unfold; (try dsimp only)) | (k_end; wrow_close) | ((with_reducible show wpAny _ _ (call (Value.ref 76) _) _ _ _); first | (with_reducible ((rename Fr _ _ _ _ => F3); (rename News _ _ _ _ => N3); (refine wpAny_call (vs_c w (Gr.pushX G B F3 rfl rfl (by decide) (by decide)) x0 x1 fun tb h' tk hk hz => ?_)); (have F4 := F3.keeps hk); (have N4 := N3.grown hk); clear F3 N3; (try dsimp only))) | ((rename Fr _ _ _ _ => F3); (rename News _ _ _ _ => N3); (refine wpAny_call (vs_c w (Gr.pushX G B F3 rfl rfl (by decide) (by decide)) x0 x1 fun tb h' tk hk hz => ?_)); (have F4 := F3.keeps hk); (have N4 := N3.grown hk); clear F3 N3; (try dsimp only))) | walk1 | (dsimp only; walk1) | (leave1; (try dsimp only)) | fail "no step"))
  rename Fr _ _ _ _ => F3
  rename News _ _ _ _ => N3
  refine CallC.of (X.keeps F3.keep) (by kernel_rfl) rfl (wpC_call (pvn_C w (Gr.pushX G B F3 rfl rfl (by decide) (by decide)) x0 x1 fun b1 tb1 h1 tk1 hb1 hk1 hz1 => ?_))
  have F4 := F3.keeps hk1
  have N4 := N3.grown hk1
  clear F3 N3
  dsimp only
  refine Call_C ?_
  (repeat' (first | (k_unfold; (try dsimp only)) | (k_end; wrow_close) | ((with_reducible show wpAny _ _ (call (Value.ref 76) _) _ _ _); first | (with_reducible ((rename Fr _ _ _ _ => F3); (rename News _ _ _ _ => N3); (refine wpAny_call (vs_c w (Gr.pushX G B F3 rfl rfl (by decide) (by decide)) x0 x1 fun tb h' tk hk hz => ?_)); (have F4 := F3.keeps hk); (have N4 := N3.grown hk); clear F3 N3; (try dsimp only))) | ((rename Fr _ _ _ _ => F3); (rename News _ _ _ _ => N3); (refine wpAny_call (vs_c w (Gr.pushX G B F3 rfl rfl (by decide) (by decide)) x0 x1 fun tb h' tk hk hz => ?_)); (have F4 := F3.keeps hk); (have N4 := N3.grown hk); clear F3 N3; (try dsimp only))) | walk1 | (dsimp only; walk1) | (leave1; (try dsimp only)) | fail "no step"))
  rename Fr _ _ _ _ => F5
  rename News _ _ _ _ => N5
  refine CallC.of (X.keeps F5.keep) (by kernel_rfl) rfl (wpC_call (pv_C w (Gr.pushX G B F5 rfl rfl (by decide) (by decide)) x0 x1 (least_in x) (Int.le_refl _) fun b2 tb2 h2 tk2 hb2 hk2 hz2 => ?_))
  have F6 := F5.keeps hk2
  have N6 := N5.grown hk2
  clear F5 N5
  dsimp only
  (repeat' (first | (k_unfold; (try dsimp only)) | (k_end; wrow_close) | ((with_reducible show wpAny _ _ (call (Value.ref 76) _) _ _ _); first | (with_reducible ((rename Fr _ _ _ _ => F3); (rename News _ _ _ _ => N3); (refine wpAny_call (vs_c w (Gr.pushX G B F3 rfl rfl (by decide) (by decide)) x0 x1 fun tb h' tk hk hz => ?_)); (have F4 := F3.keeps hk); (have N4 := N3.grown hk); clear F3 N3; (try dsimp only))) | ((rename Fr _ _ _ _ => F3); (rename News _ _ _ _ => N3); (refine wpAny_call (vs_c w (Gr.pushX G B F3 rfl rfl (by decide) (by decide)) x0 x1 fun tb h' tk hk hz => ?_)); (have F4 := F3.keeps hk); (have N4 := N3.grown hk); clear F3 N3; (try dsimp only))) | walk1 | (dsimp only; walk1) | (leave1; (try dsimp only)) | fail "no step"))
  have e : b1 = b2 := bInts_inj (hb1.trans hb2.symm)
  subst e
  rw [bne_self_eq_false]
  dsimp only
  refine allTrue_or_nilC ?_
  dsimp only
  refine execs_nilC ?_
  exact hQ _ _ ⟨F6, N6, B, X, T, ⟨l1, l2, l3⟩, ⟨n1, n2, n3⟩, dN, x0, x1, ⟨A', s₀, G⟩, tn, cd, hnt⟩
end Mine
end

section
open PySem PySem.W PySem.Spec PySem.Calls PyProof.Rows
set_option maxRecDepth 100000
set_option maxHeartbeats 8000000
namespace Mine
noncomputable abbrev boxO (c : Addr) (k r : Int) (tk tr : Tok) (n : Nat) : Obj := listOf #[.ref c, .int k tk, .int r tr] n
theorem updF_upd {d : Addr} {o : Obj} : ∀ {l : List (Addr × Obj)} {g : Obj → List (Addr × Obj)}, UpdF d o l g → ∀ o', Upd d o o' l (g o')
  | _, _, .head h => fun _ => .head h
  | _, _, .tail h r => fun o' => .tail h (updF_upd r o')
theorem take_K {w : World} {mean : ExcName → Option Value} {mg mb : Str → Option Value} {dp un : Nat} {gd : Option (List Code)} {cn : Str} {cs : Scope} {a : Addr} {ccd : Value} {cl : List (Str × Addr)} {outer : List Env} {A₀ : Around} {base h₀ : Heap} {L : Addr} {m : Str → Option Value} {s : Shared} {Q E : Value → Shared → Prop} {news : List (Addr × Obj)}
    {b c : Addr} {k r many : Int} {tk tr tm : Tok} {n n' : Nat} {vs : List Value} {ns : List Int} {gg : Obj → List (Addr × Obj)}
    (B : Below A₀ base outer h₀) (F : Fr h₀ L s.heap m) (X : (Mine.hd.heap_1 w.params).In h₀) (N : News h₀ L s.heap news) (T : Top topProg LL mean mg mb h₀) (hk : cs.kind = .function)
    (hb : (b, listOf #[.ref c, .int k tk, .int r tr] n) ∈ news) (hc : (c, listOf vs.toArray n') ∈ news) (hi : IntsAre vs ns) (h0 : ∀ x ∈ ns, 0 ≤ x) (hne : c ≠ b) (hlen : ns.length ≤ 24) (k0 : 0 ≤ k) (k1 : k < 2 ^ 40) (r0 : 0 ≤ r) (r1 : r < 2 ^ 40) (m0 : 1 ≤ many) (m1 : many < 2 ^ 20)
    (hd : dp + 5 < recursionLimit) (hu : un + 20 < cLine) (U : UpdF b (listOf #[.ref c, .int k tk, .int r tr] n) news gg)
    (hret : ∀ (v : Int) (t t' : Tok) (h' : Heap) (tk' : Nat), 0 ≤ v → v < many → Fr h₀ L h' m → News h₀ L h' (gg (listOf #[.ref c, .int (k + 1) t', .int r tr] n)) → Q (.int v t) { s with heap := h', toks := tk' }) :
    wpAny (model PySem.Challenge.rw_no0060_01.row.prog w) (ktrTop dp un gd cn cs L a ccd cl outer) (call (.ref 158) [.ref b, .int many tm]) Q E s :=
  take_c w dp un gd cn cs a ccd cl outer A₀ base h₀ L m s Q E news b c k r many tk tr tm n n' vs ns B F X N T hk hb hc hi h0 hne hlen k0 k1 r0 r1 m0 m1 hd hu fun v t t' h' tk' v0 v1 F' U' => hret v t t' h' tk' v0 v1 F' (U' _ (updF_upd U _))
theorem rep_len {n : Nat} {u : UInt8} (h : n ≤ 2) : (KBw.bInts (List.replicate n [u]).flatten.toArray).length ≤ 2 := by
  rw [KBw.ints_length]
  simp
  exact h
theorem nrS2 (w : World) {mean : ExcName → Option Value} {mg mb : Str → Option Value} {gd : Option (List Code)} {base g0 g : Heap} {l : List Env} {s : Shared} {L b c : Addr} {m : Str → Option Value} {Q : Flow → Shared → Prop} {x : Int} {tx tl : Tok} {oN oS oA oC ot : Obj} {nt : List (Addr × Obj)}
  {k r : Int} {tk tr : Tok} {nb nc : Nat} {vs : List Value} {ns : List Int}
  (H : NrAt w mean mg mb gd base g0 g l L b c x tx oN oS oA oC (boxO c k r tk tr nb) (listOf vs.toArray nc) ot nt (fun y => if y = Str.ofString "least" then some (.int (leastOf x) tl) else if y = Str.ofString "box" then some (.ref b) else m y) s.heap)
  (dA : oA.data = .cell none)
  (hi : IntsAre vs ns) (h0 : ∀ x ∈ ns, 0 ≤ x) (hlen : ns.length ≤ 24) (k0 : 0 ≤ k) (k1 : k < 2 ^ 30) (r0 : 0 ≤ r) (r1 : r < 2 ^ 40) 
  (hQ : ∀ h' tk' tk2 oA' ba ta bb tb, oA'.data = .cell (some (.bytes ba ta)) → (KBw.bInts ba).length ≤ 2 → (KBw.bInts bb).length ≤ 2 → NrAt w mean mg mb gd base g0 g l L b c x tx oN oS oA' oC (boxO c (k + 1 + 1 + 1 + 1) r tk2 tr nb) (listOf vs.toArray nc) ot nt (fun y => if y = Str.ofString "behind" then some (.bytes bb tb) else if y = Str.ofString "least" then some (.int (leastOf x) tl) else if y = Str.ofString "box" then some (.ref b) else m y) h' → Q .next { s with heap := h', toks := tk' }) :
  wpC (model PySem.Challenge.rw_no0060_01.row.prog w) ((zA 353 175 l gd).deeper (nrEnv L)) (exec (stAt nrBody 2) (nrEnv L)) Q NoE s := by
  have hfill : (Mine.hd.heap_1 w.params).In g → PySem.Challenge.rw_no0060_01 = PySem.Challenge.rw_no0060_01 := by k_fill; intro _; rfl
  clear hfill
  obtain ⟨F, N, B, X, T, ⟨l1, l2, l3⟩, ⟨n1, n2, n3⟩, dN, x0, x1, ⟨A', s₀, G⟩, tn, cd, hnt⟩ := H
  obtain ⟨S, hS⟩ : ∃ S, S = nrScope := ⟨_, rfl⟩
  obtain ⟨st, hst⟩ : ∃ S, S = stAt nrBody 2 := ⟨_, rfl⟩
  unfold nrEnv
  rw [← hS, ← hst]
  conv at hS => rhs; whnf
  conv at hst => rhs; whnf
  subst hS hst
  refine wpC_any ?_
  (repeat' (first | (k_unfold; (try dsimp only)) | (k_end; wrow_close) | ((with_reducible show wpAny _ _ (call (Value.ref 158) _) _ _ _); first | (with_reducible ((with_unfolding_all refine' take_K ?B ?F ?X ?N ?T ?hk ?hb ?hc hi h0 n1 hlen ?k0 ?k1 r0 r1 ?m0 ?m1 ?hd ?hu ?U ?_; (case hk => exact rfl); (case B => k_asm); (case F => k_asm); (case X => k_asm); (case N => k_asm); (case T => k_asm); (case hb => k_mem); (case hc => k_mem); (case k0 => omega); (case k1 => omega); (case m0 => decide); (case m1 => decide); (case hd => exact (by decide : 353 + 1 + 5 < recursionLimit)); (case hu => exact (by decide : 175 + 3 + 20 < cLine)); (case U => k_updF)); k_whole; (intro v' t' t2' h' tk' v0' v1' F' N'); (try dsimp only at N'); (try k_sweep))) | ((with_unfolding_all refine' take_K ?B ?F ?X ?N ?T ?hk ?hb ?hc hi h0 n1 hlen ?k0 ?k1 r0 r1 ?m0 ?m1 ?hd ?hu ?U ?_; (case hk => exact rfl); (case B => k_asm); (case F => k_asm); (case X => k_asm); (case N => k_asm); (case T => k_asm); (case hb => k_mem); (case hc => k_mem); (case k0 => omega); (case k1 => omega); (case m0 => decide); (case m1 => decide); (case hd => exact (by decide : 353 + 1 + 5 < recursionLimit)); (case hu => exact (by decide : 175 + 3 + 20 < cLine)); (case U => k_updF)); k_whole; (intro v' t' t2' h' tk' v0' v1' F' N'); (try dsimp only at N'); (try k_sweep))) | walk1 | (dsimp only; walk1) | (leave1; (try dsimp only)) | fail "no step"))
  rename Fr _ _ _ _ => F9
  rename News _ _ _ _ => N9
  exact hQ _ _ _ _ _ _ _ _ (by assumption) (rep_len (by omega)) (rep_len (by omega)) ⟨F9, fun p hp => N9 p (.tail _ (.tail _ (.tail _ hp))), B, X, T, ⟨l1, l2, l3⟩, ⟨n1, n2, n3⟩, dN, x0, x1, ⟨A', s₀, G⟩, tn, cd, hnt⟩
end Mine
end

section
open PySem PySem.W PySem.Spec PySem.Calls PyProof.Rows
set_option maxRecDepth 100000
set_option maxHeartbeats 8000000
namespace Mine
noncomputable abbrev nrQ : Str := Str.ofString "_law_number_right" ++ ".<locals>." ++ "<lambda>"
noncomputable abbrev nrM (b : Addr) (bb : Array UInt8) (tb : Tok) (x : Int) (tl : Tok) (m : Str → Option Value) : Str → Option Value := fun y => if y = Str.ofString "behind" then some (.bytes bb tb) else if y = Str.ofString "least" then some (.int (leastOf x) tl) else if y = Str.ofString "box" then some (.ref b) else m y
noncomputable abbrev nrM1 (first : Int) (tf : Tok) (b : Addr) (bb : Array UInt8) (tb : Tok) (x : Int) (tl : Tok) (m : Str → Option Value) : Str → Option Value := fun y => if y = Str.ofString "first" then some (.int first tf) else if y = Str.ofString "behind" then some (.bytes bb tb) else if y = Str.ofString "least" then some (.int (leastOf x) tl) else if y = Str.ofString "box" then some (.ref b) else m y
theorem ne_loc {g h : Heap} {L a : Addr} {m : Str → Option Value} (F : Fr g L h m) (e : h.get? a = none) : @Ne Nat a L := fun q => by
  subst q
  obtain ⟨o, es, ep, ho, _⟩ := F.ns
  rw [e] at ho
  cases ho
theorem nrT0 (w : World) {mean : ExcName → Option Value} {mg mb : Str → Option Value} {gd : Option (List Code)} {base g0 g : Heap} {l : List Env} {s : Shared} {L b c : Addr} {m : Str → Option Value} {Q : Flow → Shared → Prop} {E : Value → Shared → Prop} {x : Int} {tx tl tb tf ts : Tok} {oN oS oA oC ob oc : Obj} {nt nt0 : List (Addr × Obj)} {ps : Array Value} {first size : Int} {bb : Array UInt8}
  (H : NrAt w mean mg mb gd base g0 g l L b c x tx oN oS oA oC ob oc (tabObj ps) nt (nrM1 first tf b bb tb x tl m) s.heap)
  (I : TabI nrQ ps nt0) (hsub : ∀ q ∈ nt0, q ∈ nt) (dS : oS.data = .cell (some (.int size ts))) (hlt : size < leastOf x)
  (hQ : ∀ g' ce ps' h' tk', NrAt w mean mg mb gd base g0 g' l L b c x tx oN oS oA oC ob oc (tabObj ps') (ce ++ nt) (nrM1 first tf b bb tb x tl m) h' → TabI nrQ ps' (ce ++ nt0) → (∀ p ∈ ce, ∀ q ∈ nt, @LT.lt Nat _ q.1 p.1) → Q .cont { s with heap := h', toks := tk' }) :
  wpAny (model PySem.Challenge.rw_no0060_01.row.prog w) ((zA 353 175 l gd).deeper (nrEnv L)) (exec (stAt nrLoop 0) (nrEnv L)) Q E s := by
  have hfill : (Mine.hd.heap_1 w.params).In g → PySem.Challenge.rw_no0060_01 = PySem.Challenge.rw_no0060_01 := by k_fill; intro _; rfl
  clear hfill
  obtain ⟨F, N, B, X, T, ⟨l1, l2, l3⟩, ⟨n1, n2, n3⟩, dN, x0, x1, ⟨A', s₀, G⟩, tn, cd, hnt⟩ := H
  obtain ⟨S, hS⟩ : ∃ S, S = nrScope := ⟨_, rfl⟩
  obtain ⟨st, hst⟩ : ∃ S, S = stAt nrLoop 0 := ⟨_, rfl⟩
  unfold nrEnv
  rw [← hS, ← hst]
  conv at hS => rhs; whnf
  conv at hst => rhs; whnf
  subst hS hst
  (repeat' (first | (k_unfold; (try dsimp only)) | (k_end; wrow_close) | ((with_reducible show wpAny _ _ (callWith _ (Value.ref _) _ _ _) _ _ _); first | (with_reducible (k_dflt (refine' callWith_K ?k1 ?k2 ?_; (case k1 => k_asm); (case k2 => k_is); k_whole))) | (k_dflt (refine' callWith_K ?k1 ?k2 ?_; (case k1 => k_asm); (case k2 => k_is); k_whole))) | ((with_reducible show wpAny _ _ (call (Value.ref 172) _) _ _ _); first | (with_reducible ((rename Fr _ _ _ _ => F3); (rename News _ _ _ _ => N3); (with_unfolding_all refine wpAny_call (refused_Q w (Gr.pushX G B F3 rfl rfl (by decide) (by decide)) (N3 _ (.head _)).1 rfl (fun A2 l2 s2 R2 G2 hk2 hR2 => lamP_R w G2 (hk2 _ _ (N3 _ (.head _)).1) rfl (hcr'.keeps hk2) ⟨oN, hk2 _ _ (N3 (L + 1, oN) (by k_mem)).1, dN⟩ ⟨oS, hk2 _ _ (N3 (L + 1 + 1, oS) (by k_mem)).1, dS⟩ x0 x1 hlt hR2) (fun a nx t1 t2 h2 tk2 TT ha1 ha2 => ?_))); (obtain ⟨g2, T2, F4, N4, B4⟩ := turned B F3 N3 rfl TT); (with_unfolding_all have X4 := G.K.keeps B4.stays); (with_unfolding_all have T4 := G.top.keeps B4.stays); (have tn4 := tn.trans T2); (with_unfolding_all have N5 := News.more F4 N4 ha2 (fun es n q => by cases q) (T2.none_ _ (kts_none F3.keep ha1))); clear F3 N3 N4 B X T tn; (try dsimp only))) | ((rename Fr _ _ _ _ => F3); (rename News _ _ _ _ => N3); (with_unfolding_all refine wpAny_call (refused_Q w (Gr.pushX G B F3 rfl rfl (by decide) (by decide)) (N3 _ (.head _)).1 rfl (fun A2 l2 s2 R2 G2 hk2 hR2 => lamP_R w G2 (hk2 _ _ (N3 _ (.head _)).1) rfl (hcr'.keeps hk2) ⟨oN, hk2 _ _ (N3 (L + 1, oN) (by k_mem)).1, dN⟩ ⟨oS, hk2 _ _ (N3 (L + 1 + 1, oS) (by k_mem)).1, dS⟩ x0 x1 hlt hR2) (fun a nx t1 t2 h2 tk2 TT ha1 ha2 => ?_))); (obtain ⟨g2, T2, F4, N4, B4⟩ := turned B F3 N3 rfl TT); (with_unfolding_all have X4 := G.K.keeps B4.stays); (with_unfolding_all have T4 := G.top.keeps B4.stays); (have tn4 := tn.trans T2); (with_unfolding_all have N5 := News.more F4 N4 ha2 (fun es n q => by cases q) (T2.none_ _ (kts_none F3.keep ha1))); clear F3 N3 N4 B X T tn; (try dsimp only))) | ((with_reducible show wpAny _ _ (eval (Expr.Lambda ..) _) _ _ _); first | (with_reducible ((rename Fr _ _ _ _ => F3); (rename News _ _ _ _ => N3); (with_unfolding_all refine' lam_make (pre := [(L + 1 + 1 + 1 + 1, oC), (L + 1 + 1 + 1, oA), (L + 1 + 1, oS), (L + 1, oN), (b, ob), (c, oc), (174, tabObj ps)]) (nt := nt) F3 N3 T (cd.keeps B.stays) rfl ?U I hsub ?hP ?hdef ?hq ?hcl ?_; (case U => k_updF); (case hP => exact fun q hq => (hnt q hq).2.1); (case hdef => with_unfolding_all exact rfl); (case hq => with_unfolding_all exact rfl); (case hcl => with_unfolding_all exact rfl)); (intro f' c' ctv' ps' ce' h' tk' F' N' hcr' I' lce' l1'); (try dsimp only [List.cons_append, List.nil_append] at N'); clear F3 N3)) | ((rename Fr _ _ _ _ => F3); (rename News _ _ _ _ => N3); (with_unfolding_all refine' lam_make (pre := [(L + 1 + 1 + 1 + 1, oC), (L + 1 + 1 + 1, oA), (L + 1 + 1, oS), (L + 1, oN), (b, ob), (c, oc), (174, tabObj ps)]) (nt := nt) F3 N3 T (cd.keeps B.stays) rfl ?U I hsub ?hP ?hdef ?hq ?hcl ?_; (case U => k_updF); (case hP => exact fun q hq => (hnt q hq).2.1); (case hdef => with_unfolding_all exact rfl); (case hq => with_unfolding_all exact rfl); (case hcl => with_unfolding_all exact rfl)); (intro f' c' ctv' ps' ce' h' tk' F' N' hcr' I' lce' l1'); (try dsimp only [List.cons_append, List.nil_append] at N'); clear F3 N3)) | walk1 | (dsimp only; walk1) | (leave1; (try dsimp only)) | fail "no step"))
  dsimp only
  rename Fr _ _ _ _ => F9
  rename News _ _ _ _ => N9
  refine hQ g2 ce' ps' _ _ ⟨F9, fun p hp => N9 p (.tail _ (.tail _ (.tail _ hp))), B4, X4, T4, ⟨l1, l2, l3⟩, ⟨n1, n2, n3⟩, dN, x0, x1, ⟨A', s₀, G⟩, tn4, cd, fun p hp => ?_⟩ I' fun p hp q hq => lce' p hp q (List.mem_append_right _ hq)
  rcases List.mem_append.mp hp with hp | hp
  · exact ⟨Nat.ne_of_gt (lce' p hp (b, ob) (by k_mem)), Nat.ne_of_gt (lce' p hp (174, tabObj ps) (by k_mem)), .inr (lce' p hp (L + 1 + 1 + 1 + 1, oC) (by k_mem))⟩
  · exact hnt p hp
end Mine
end

section
open PySem PySem.W PySem.Spec PySem.Calls PyProof.Rows
set_option maxRecDepth 100000
namespace Mine
theorem enc_bounds {n size : Int} (h0 : 0 ≤ n) (hn : n < 4611686018427387904) (hs : size = 1 ∨ size = 2 ∨ size = 4 ∨ size = 8) (hl : leastOf n ≤ size) : n < 2 ^ (8 * size - 2).toNat := (least_le hn hs).mp hl
theorem dig_head (n : Int) (i : Nat) (h : 0 < i) : (dig n i).getD 0 0 = (n / 256 ^ (i - 1)) % 256 := by
  obtain ⟨j, rfl⟩ : ∃ j, i = j + 1 := ⟨i - 1, by omega⟩
  rfl
theorem enc_head {n size : Int} (h0 : 0 ≤ n) (hn : n < 4611686018427387904) (hs : size = 1 ∨ size = 2 ∨ size = 4 ∨ size = 8) (hl : leastOf n ≤ size) :
    ((dig (enc n size) size.toNat).getD 0 0).fdiv 64 = idxOf size := by
  have h1 := enc_bounds h0 hn hs hl
  rw [Int.fdiv_eq_ediv_of_nonneg _ (by decide), dig_head _ _ (by omega)]
  unfold enc
  revert h1
  rcases hs with rfl | rfl | rfl | rfl
  · rw [show (2 : Int) ^ ((8:Int) * 1 - 2).toNat = 64 by decide, show (256 : Int) ^ ((1 : Int).toNat - 1) = 1 by decide, show idxOf 1 = 0 by decide]; omega
  · rw [show (2 : Int) ^ ((8:Int) * 2 - 2).toNat = 16384 by decide, show (256 : Int) ^ ((2 : Int).toNat - 1) = 256 by decide, show idxOf 2 = 1 by decide]; omega
  · rw [show (2 : Int) ^ ((8:Int) * 4 - 2).toNat = 1073741824 by decide, show (256 : Int) ^ ((4 : Int).toNat - 1) = 16777216 by decide, show idxOf 4 = 2 by decide]; omega
  · rw [show (2 : Int) ^ ((8:Int) * 8 - 2).toNat = 4611686018427387904 by decide, show (256 : Int) ^ ((8 : Int).toNat - 1) = 72057594037927936 by decide, show idxOf 8 = 3 by decide]; omega
/-- what put_varint has written -/
structure Wri (x size : Int) (ks : List Int) : Prop where
  len : (ks.length : Int) = size
  hd : (ks.getD 0 0).fdiv 64 = idxOf size
  bv : bv ks = idxOf size * 2 ^ (8 * size - 2).toNat + x
  n0 : ∀ k ∈ ks, 0 ≤ k ∧ k < 256
  rd : Mine.bv ks % 2 ^ (8 * size - 2).toNat = x
theorem wri {n size : Int} {ks : List Int} (h0 : 0 ≤ n) (hn : n < 4611686018427387904) (hs : size = 1 ∨ size = 2 ∨ size = 4 ∨ size = 8) (hl : leastOf n ≤ size) (hk : ks = dig (enc n size) size.toNat) : Wri n size ks := by
  have e := enc_in h0 hn hs hl
  have b := bv_dig_small e.1 e.2
  have h1 := enc_bounds h0 hn hs hl
  subst hk
  refine ⟨by rw [dig_length]; omega, enc_head h0 hn hs hl, b, dig_in _ _, ?_⟩
  rw [b]
  unfold enc
  rw [Int.add_comm, Int.add_mul_emod_self_right, Int.emod_eq_of_lt h0 h1]
end Mine
end

section
open PySem PySem.W PySem.Spec PySem.Calls PyProof.Rows
set_option maxRecDepth 100000
set_option maxHeartbeats 8000000
namespace Mine
noncomputable abbrev nrM2 (d : Array UInt8) (td : Tok) (first : Int) (tf : Tok) (b : Addr) (bb : Array UInt8) (tb : Tok) (x : Int) (tl : Tok) (m : Str → Option Value) : Str → Option Value := fun y => if y = Str.ofString "data" then some (.bytes d td) else if y = Str.ofString "first" then some (.int first tf) else if y = Str.ofString "behind" then some (.bytes bb tb) else if y = Str.ofString "least" then some (.int (leastOf x) tl) else if y = Str.ofString "box" then some (.ref b) else m y
theorem nrT1 (w : World) {mean : ExcName → Option Value} {mg mb : Str → Option Value} {gd : Option (List Code)} {base g0 g : Heap} {l : List Env} {s : Shared} {L b c : Addr} {m : Str → Option Value} {Q : Flow → Shared → Prop} {x : Int} {tx tl tb tf ts : Tok} {oN oS oA oC ob oc ot : Obj} {nt : List (Addr × Obj)} {first size : Int} {bb : Array UInt8}
  (H : NrAt w mean mg mb gd base g0 g l L b c x tx oN oS oA oC ob oc ot nt (nrM1 first tf b bb tb x tl m) s.heap)
  (dS : oS.data = .cell (some (.int size ts))) (hs : size = 1 ∨ size = 2 ∨ size = 4 ∨ size = 8) (hlt : leastOf x ≤ size)
  (hQ : ∀ d td h' tk', KBw.bInts d = dig (enc x size) size.toNat → NrAt w mean mg mb gd base g0 g l L b c x tx oN oS oA oC ob oc ot nt (nrM2 d td first tf b bb tb x tl m) h' → Q .next { s with heap := h', toks := tk' }) :
  wpC (model PySem.Challenge.rw_no0060_01.row.prog w) ((zA 353 175 l gd).deeper (nrEnv L)) (exec (stAt nrLoop 1) (nrEnv L)) Q NoE s := by
  have hfill : (Mine.hd.heap_1 w.params).In g → PySem.Challenge.rw_no0060_01 = PySem.Challenge.rw_no0060_01 := by k_fill; intro _; rfl
  clear hfill
  obtain ⟨F, N, B, X, T, ⟨l1, l2, l3⟩, ⟨n1, n2, n3⟩, dN, x0, x1, ⟨A', s₀, G⟩, tn, cd, hnt⟩ := H
  obtain ⟨S, hS⟩ : ∃ S, S = nrScope := ⟨_, rfl⟩
  obtain ⟨st, hst⟩ : ∃ S, S = stAt nrLoop 1 := ⟨_, rfl⟩
  unfold nrEnv
  rw [← hS, ← hst]
  conv at hS => rhs; whnf
  conv at hst => rhs; whnf
  subst hS hst
  refine' AssignName_C (Call_C ?_) ?hs
  case hs => rfl
  k_steps
  rename Fr _ _ _ _ => F3
  rename News _ _ _ _ => N3
  refine CallC.of (X.keeps F3.keep) (by kernel_rfl) rfl (wpC_call (pv_C w (Gr.pushX G B F3 rfl rfl (by decide) (by decide)) x0 x1 hs hlt fun b1 tb1 h1 tk1 hb1 hk1 hz1 => ?_))
  have F4 := F3.keeps hk1
  have N4 := N3.grown hk1
  clear F3 N3
  dsimp only
  k_steps
  rename Fr _ _ _ _ => F9
  rename News _ _ _ _ => N9
  exact hQ _ _ _ _ hb1 ⟨F9, N9, B, X, T, ⟨l1, l2, l3⟩, ⟨n1, n2, n3⟩, dN, x0, x1, ⟨A', s₀, G⟩, tn, cd, hnt⟩
end Mine
end

section
open PySem PySem.W PySem.Spec PySem.Calls PyProof.Rows
set_option maxRecDepth 100000
set_option maxHeartbeats 8000000
namespace Mine
theorem pow_two {prog : Program} {w : World} {A : Around} {E : Value → Shared → Prop} {s : Shared} {b : Int} {t u : Tok} {Q : Value → Shared → Prop} (h0 : 0 ≤ b) (h1 : b ≤ 64) (h : Q (.int (2 ^ b.toNat) s.toks) { s with toks := s.toks + 1 }) : wpAny (model prog w) A (binaryOp .Pow (.int 2 t) (.int b u)) Q E s :=
  pow_int_small (by omega) (by omega) (by decide) h
theorem nrT2 (w : World) {mean : ExcName → Option Value} {mg mb : Str → Option Value} {gd : Option (List Code)} {base g0 g : Heap} {l : List Env} {s : Shared} {L b c : Addr} {m : Str → Option Value} {Q : Flow → Shared → Prop} {E : Value → Shared → Prop} {x : Int} {tx tl tb tf ts td : Tok} {oN oS oA oC ob oc ot : Obj} {nt : List (Addr × Obj)} {first size : Int} {bb d : Array UInt8}
  (H : NrAt w mean mg mb gd base g0 g l L b c x tx oN oS oA oC ob oc ot nt (nrM2 d td first tf b bb tb x tl m) s.heap)
  (dS : oS.data = .cell (some (.int size ts))) (hs : size = 1 ∨ size = 2 ∨ size = 4 ∨ size = 8) (hlt : leastOf x ≤ size) (hfi : first = idxOf size) {ks : List Int} (hb : KBw.bInts d = ks) (W : Wri x size ks)
  (hQ : ∀ h' tk', NrAt w mean mg mb gd base g0 g l L b c x tx oN oS oA oC ob oc ot nt (nrM2 d td first tf b bb tb x tl m) h' → Q .next { s with heap := h', toks := tk' }) :
  wpAny (model PySem.Challenge.rw_no0060_01.row.prog w) ((zA 353 175 l gd).deeper (nrEnv L)) (exec (stAt nrLoop 2) (nrEnv L)) Q E s := by
  have hfill : (Mine.hd.heap_1 w.params).In g → PySem.Challenge.rw_no0060_01 = PySem.Challenge.rw_no0060_01 := by k_fill; intro _; rfl
  clear hfill
  obtain ⟨F, N, B, X, T, ⟨l1, l2, l3⟩, ⟨n1, n2, n3⟩, dN, x0, x1, ⟨A', s₀, G⟩, tn, cd, hnt⟩ := H
  obtain ⟨S, hS⟩ : ∃ S, S = nrScope := ⟨_, rfl⟩
  obtain ⟨st, hst⟩ : ∃ S, S = stAt nrLoop 2 := ⟨_, rfl⟩
  unfold nrEnv
  rw [← hS, ← hst]
  conv at hS => rhs; whnf
  conv at hst => rhs; whnf
  subst hS hst
  obtain ⟨wl, wh, wv, w0, _⟩ := W
  have hk8 : ks.length ≤ 100 := by omega
  have hk1 : 0 < ks.length := by omega
  subst hfi
  (repeat' (first | (k_unfold; (try dsimp only)) | (k_end; wrow_close) | ((with_reducible show wpAny _ _ (call (Value.ref 165) _) _ _ _); first | (with_reducible ((rename Fr _ _ _ _ => F3); (rename News _ _ _ _ => N3); (refine wpAny_call (lv_c w (Gr.pushX G B F3 rfl rfl (by decide) (by decide)) hb hk8 fun tb h' tk hk hz => ?_)); (have F4 := F3.keeps hk); (have N4 := N3.grown hk); clear F3 N3; (try dsimp only))) | ((rename Fr _ _ _ _ => F3); (rename News _ _ _ _ => N3); (refine wpAny_call (lv_c w (Gr.pushX G B F3 rfl rfl (by decide) (by decide)) hb hk8 fun tb h' tk hk hz => ?_)); (have F4 := F3.keeps hk); (have N4 := N3.grown hk); clear F3 N3; (try dsimp only))) | ((with_reducible show wpAny _ _ (binaryOp Operator.Pow (Value.int _ _) (Value.int _ _)) _ _ _); first | (with_reducible ((with_reducible refine pow_two (by omega) (by omega) ?_))) | ((with_reducible refine pow_two (by omega) (by omega) ?_))) | walk1 | (dsimp only; walk1) | (leave1; (try dsimp only)) | fail "no step"))
  · rename ¬ _ => z; exact absurd wl z
  · rename ¬ _ => z; exact absurd wh z
  · rename ¬ _ => z; exact absurd wv z
  · rename Fr _ _ _ _ => F9
    rename News _ _ _ _ => N9
    exact hQ _ _ ⟨F9, N9, B, X, T, ⟨l1, l2, l3⟩, ⟨n1, n2, n3⟩, dN, x0, x1, ⟨A', s₀, G⟩, tn, cd, hnt⟩
end Mine
end

section
open PySem PySem.W PySem.Spec PySem.Calls PyProof.Rows
set_option maxRecDepth 100000
set_option maxHeartbeats 8000000
namespace Mine
theorem gv_data {x size : Int} {ka ks kb : List Int} (W : Wri x size ks) (hs : size = 1 ∨ size = 2 ∨ size = 4 ∨ size = 8) :
    szOf (((ka ++ ks ++ kb).getD ((ka.length : Nat) : Int).toNat 0).fdiv (2 ^ Int.toNat 6)) = size := by
  obtain ⟨wl, wh, _⟩ := W
  have hk1 : 0 < ks.length := by omega
  rw [show (((ka.length : Nat) : Int)).toNat = ka.length from rfl, List.append_assoc, List.getD_eq_getElem?_getD, List.getElem?_append_right (Nat.le_refl _), Nat.sub_self, List.getElem?_append_left hk1, ← List.getD_eq_getElem?_getD]
  show szOf ((ks.getD 0 0).fdiv 64) = size
  rw [wh]
  rcases hs with rfl | rfl | rfl | rfl <;> decide
theorem mid_take {ka ks kb : List Int} {n : Nat} (h : ks.length = n) : List.take n (List.drop (((ka.length : Nat) : Int)).toNat (ka ++ ks ++ kb)) = ks := by
  subst h
  rw [show (((ka.length : Nat) : Int)).toNat = ka.length from rfl, List.append_assoc, List.drop_left, List.take_left]
theorem nrT3 (w : World) {mean : ExcName → Option Value} {mg mb : Str → Option Value} {gd : Option (List Code)} {base g0 g : Heap} {l : List Env} {s : Shared} {L b c : Addr} {m : Str → Option Value} {Q : Flow → Shared → Prop} {E : Value → Shared → Prop} {x : Int} {tx tl tb tf ts td : Tok} {oN oS oA oC ob oc ot : Obj} {nt : List (Addr × Obj)} {first size : Int} {bb d : Array UInt8}
  (H : NrAt w mean mg mb gd base g0 g l L b c x tx oN oS oA oC ob oc ot nt (nrM2 d td first tf b bb tb x tl m) s.heap)
  (dS : oS.data = .cell (some (.int size ts))) (hs : size = 1 ∨ size = 2 ∨ size = 4 ∨ size = 8) (hlt : leastOf x ≤ size) (hfi : first = idxOf size) {ks : List Int} (hb : KBw.bInts d = ks) {ba : Array UInt8} {ta : Tok} {ka kb : List Int} (W : Wri x size ks) (dA : oA.data = .cell (some (.bytes ba ta))) (hba : KBw.bInts ba = ka) (hbb : KBw.bInts bb = kb) (hla : ka.length ≤ 2) (hlb : kb.length ≤ 2)
  (hQ : ∀ h' tk', NrAt w mean mg mb gd base g0 g l L b c x tx oN oS oA oC ob oc ot nt (nrM2 d td first tf b bb tb x tl m) h' → Q .next { s with heap := h', toks := tk' }) :
  wpAny (model PySem.Challenge.rw_no0060_01.row.prog w) ((zA 353 175 l gd).deeper (nrEnv L)) (exec (stAt nrLoop 3) (nrEnv L)) Q E s := by
  have hfill : (Mine.hd.heap_1 w.params).In g → PySem.Challenge.rw_no0060_01 = PySem.Challenge.rw_no0060_01 := by k_fill; intro _; rfl
  clear hfill
  obtain ⟨F, N, B, X, T, ⟨l1, l2, l3⟩, ⟨n1, n2, n3⟩, dN, x0, x1, ⟨A', s₀, G⟩, tn, cd, hnt⟩ := H
  obtain ⟨S, hS⟩ : ∃ S, S = nrScope := ⟨_, rfl⟩
  obtain ⟨st, hst⟩ : ∃ S, S = stAt nrLoop 3 := ⟨_, rfl⟩
  unfold nrEnv
  rw [← hS, ← hst]
  conv at hS => rhs; whnf
  conv at hst => rhs; whnf
  subst hS hst
  obtain ⟨wl, wh, wv, w0, wr⟩ := id W
  have hk8 : ks.length ≤ 100 := by omega
  have hk1 : 0 < ks.length := by omega
  have hks : ks.length ≤ 8 := by omega
  have hpos : ∀ k ∈ ka ++ ks ++ kb, 0 ≤ k := fun k hk => by
    rcases List.mem_append.mp hk with hk | hk
    · rcases List.mem_append.mp hk with hk | hk
      · exact (KBw.ints_in (hba ▸ hk)).1
      · exact (w0 k hk).1
    · exact (KBw.ints_in (hbb ▸ hk)).1
  have hka : ka.length ≤ 100 := by omega
  have hkb : kb.length ≤ 100 := by omega
  have h31 : (ka ++ ks ++ kb).length ≤ 100 := by rw [List.length_append, List.length_append]; omega
  have h32 : ((ka.length : Nat) : Int) < ((ka ++ ks ++ kb).length : Int) := by rw [List.length_append, List.length_append]; omega
  have h33 : ((ka.length : Nat) : Int) + size ≤ ((ka ++ ks ++ kb).length : Int) := by rw [List.length_append, List.length_append]; omega
  (repeat' (first | (k_unfold; (try dsimp only)) | (k_end; wrow_close) | ((with_reducible show wpAny _ _ (call (Value.ref 90) _) _ _ _); first | (with_reducible ((rename Fr _ _ _ _ => F3); (rename News _ _ _ _ => N3); (refine wpAny_call (gv_c w (Gr.pushX G B F3 rfl rfl (by decide) (by decide)) (by assumption) (ks := ka ++ ks ++ kb) h31 (by omega) h32 (gv_data W hs) h33 hpos fun ax nx t1 t2 h' tk hk hz hax hax2 => ?_)); (have F4 := F3.keeps hk); (have N4 := News.more F4 (N3.grown hk) hax2 (fun es n q => by cases q) (kts_none F3.keep hax)); clear F3 N3; (try dsimp only))) | ((rename Fr _ _ _ _ => F3); (rename News _ _ _ _ => N3); (refine wpAny_call (gv_c w (Gr.pushX G B F3 rfl rfl (by decide) (by decide)) (by assumption) (ks := ka ++ ks ++ kb) h31 (by omega) h32 (gv_data W hs) h33 hpos fun ax nx t1 t2 h' tk hk hz hax hax2 => ?_)); (have F4 := F3.keeps hk); (have N4 := News.more F4 (N3.grown hk) hax2 (fun es n q => by cases q) (kts_none F3.keep hax)); clear F3 N3; (try dsimp only))) | walk1 | (dsimp only; walk1) | (leave1; (try dsimp only)) | fail "no step"))
  · rename Fr _ _ _ _ => F9
    rename News _ _ _ _ => N9
    exact hQ _ _ ⟨F9, fun p hp => N9 p (.tail _ (.tail _ hp)), B, X, T, ⟨l1, l2, l3⟩, ⟨n1, n2, n3⟩, dN, x0, x1, ⟨A', s₀, G⟩, tn, cd, hnt⟩
  · rename ¬ _ => z
    rw [mid_take (by omega)] at z
    exact absurd wr z
end Mine
end

section
open PySem PySem.W PySem.Spec PySem.Calls PyProof.Rows
set_option maxRecDepth 100000
set_option maxHeartbeats 8000000
namespace Mine
theorem nrT4 (w : World) {mean : ExcName → Option Value} {mg mb : Str → Option Value} {gd : Option (List Code)} {base g0 g : Heap} {l : List Env} {s : Shared} {L b c : Addr} {m : Str → Option Value} {Q : Flow → Shared → Prop} {E : Value → Shared → Prop} {x : Int} {tx tl tb tf ts td : Tok} {oN oS oA oC ot : Obj} {nt : List (Addr × Obj)} {first size : Int} {bb d : Array UInt8}
  {k r : Int} {tk tr : Tok} {nb nc : Nat} {vs : List Value} {ns : List Int} {cv : Option Value}
  (H : NrAt w mean mg mb gd base g0 g l L b c x tx oN oS oA oC (boxO c k r tk tr nb) (listOf vs.toArray nc) ot nt (nrM2 d td first tf b bb tb x tl m) s.heap)
  (dS : oS.data = .cell (some (.int size ts))) (hs1 : 1 ≤ size) (hs8 : size ≤ 8) {ks : List Int} (hb : KBw.bInts d = ks) {ba : Array UInt8} {ta : Tok} {ka : List Int} (hks : (ks.length : Int) = size) (dA : oA.data = .cell (some (.bytes ba ta))) (hba : KBw.bInts ba = ka) (hla : ka.length ≤ 2) (dC : oC.data = .cell cv)
  (hi : IntsAre vs ns) (h0 : ∀ x ∈ ns, 0 ≤ x) (hlen : ns.length ≤ 24) (k0 : 0 ≤ k) (k1 : k < 2 ^ 30) (r0 : 0 ≤ r) (r1 : r < 2 ^ 40) 
  (hQ : ∀ h' tk' tk2 oC' bc tc (v : Int), oC'.data = .cell (some (.bytes bc tc)) → 0 ≤ v → v < size → KBw.bInts bc = ka ++ ks.take v.toNat → NrAt w mean mg mb gd base g0 g l L b c x tx oN oS oA oC' (boxO c (k + 1) r tk2 tr nb) (listOf vs.toArray nc) ot nt (nrM2 d td first tf b bb tb x tl m) h' → Q .next { s with heap := h', toks := tk' }) :
  wpAny (model PySem.Challenge.rw_no0060_01.row.prog w) ((zA 353 175 l gd).deeper (nrEnv L)) (exec (stAt nrLoop 4) (nrEnv L)) Q E s := by
  have hfill : (Mine.hd.heap_1 w.params).In g → PySem.Challenge.rw_no0060_01 = PySem.Challenge.rw_no0060_01 := by k_fill; intro _; rfl
  clear hfill
  obtain ⟨F, N, B, X, T, ⟨l1, l2, l3⟩, ⟨n1, n2, n3⟩, dN, x0, x1, ⟨A', s₀, G⟩, tn, cd, hnt⟩ := H
  obtain ⟨S, hS⟩ : ∃ S, S = nrScope := ⟨_, rfl⟩
  obtain ⟨st, hst⟩ : ∃ S, S = stAt nrLoop 4 := ⟨_, rfl⟩
  unfold nrEnv
  rw [← hS, ← hst]
  conv at hS => rhs; whnf
  conv at hst => rhs; whnf
  subst hS hst
  have hka : ka.length ≤ 100 := by omega
  have hk8 : ks.length ≤ 100 := by omega
  (repeat' (first | (k_unfold; (try dsimp only)) | (k_end; wrow_close) | ((with_reducible show wpAny _ _ (call (Value.ref 158) _) _ _ _); first | (with_reducible ((with_unfolding_all refine' take_K ?B ?F ?X ?N ?T ?hk ?hb ?hc hi h0 n1 hlen ?k0 ?k1 r0 r1 ?m0 ?m1 ?hd ?hu ?U ?_; (case hk => exact rfl); (case B => k_asm); (case F => k_asm); (case X => k_asm); (case N => k_asm); (case T => k_asm); (case hb => k_mem); (case hc => k_mem); (case k0 => omega); (case k1 => omega); (case m0 => omega); (case m1 => omega); (case hd => exact (by decide : 353 + 1 + 5 < recursionLimit)); (case hu => exact (by decide : 175 + 3 + 20 < cLine)); (case U => k_updF)); k_whole; (intro v' t' t2' h' tk' v0' v1' F' N'); (try dsimp only at N'); (try k_sweep))) | ((with_unfolding_all refine' take_K ?B ?F ?X ?N ?T ?hk ?hb ?hc hi h0 n1 hlen ?k0 ?k1 r0 r1 ?m0 ?m1 ?hd ?hu ?U ?_; (case hk => exact rfl); (case B => k_asm); (case F => k_asm); (case X => k_asm); (case N => k_asm); (case T => k_asm); (case hb => k_mem); (case hc => k_mem); (case k0 => omega); (case k1 => omega); (case m0 => omega); (case m1 => omega); (case hd => exact (by decide : 353 + 1 + 5 < recursionLimit)); (case hu => exact (by decide : 175 + 3 + 20 < cLine)); (case U => k_updF)); k_whole; (intro v' t' t2' h' tk' v0' v1' F' N'); (try dsimp only at N'); (try k_sweep))) | walk1 | (dsimp only; walk1) | (leave1; (try dsimp only)) | fail "no step"))
  rename Fr _ _ _ _ => F9
  rename News _ _ _ _ => N9
  rename _ = Data.cell (some (Value.bytes (_ ++ _) _)) => dC9
  rename KBw.bInts (_ ++ _) = _ => kbaApp
  refine hQ _ _ _ _ _ _ v' dC9 v0' v1' ?_ ⟨F9, N9, B, X, T, ⟨l1, l2, l3⟩, ⟨n1, n2, n3⟩, dN, x0, x1, ⟨A', s₀, G⟩, tn, cd, hnt⟩
  rw [kbaApp, clip_nat v0' (by omega)]
end Mine
end

section
open PySem PySem.W PySem.Spec PySem.Calls PyProof.Rows
set_option maxRecDepth 100000
set_option maxHeartbeats 8000000
namespace Mine
theorem cut_first {x size v : Int} {ka ks : List Int} (W : Wri x size ks) (hs : size = 1 ∨ size = 2 ∨ size = 4 ∨ size = 8) (v0 : 0 < v) :
    szOf (((ka ++ ks.take v.toNat).getD ((ka.length : Nat) : Int).toNat 0).fdiv (2 ^ Int.toNat 6)) = size := by
  have h := gv_data (ka := ka) (kb := []) W hs
  rw [List.append_nil] at h
  rw [← h]
  congr 2
  rw [show (((ka.length : Nat) : Int)).toNat = ka.length from rfl, List.getD_eq_getElem?_getD, List.getD_eq_getElem?_getD, List.getElem?_append_right (Nat.le_refl _), List.getElem?_append_right (Nat.le_refl _), Nat.sub_self, List.getElem?_take_of_lt (by omega)]
theorem lamC_R (w : World) {mean : ExcName → Option Value} {mg mb : Str → Option Value} {A : Around} {base : Heap} {l : List Env} {s : Shared} {R : Result → Shared → Prop} {f : Addr} {fo : Obj} {name qual : Str} {pm cdv ctv : Value} {p1 p2 p3 p4 p5 p6 : Pos} {cA cC : Addr} {ba bc : Array UInt8} {ka ks : List Int} {ta tc : Tok} {x size v : Int} (G : Gr w mean mg mb 355 181 A base l s)
  (ho : s.heap.get? f = some fo) (hdata : fo.data = .func (kla_fn name qual noArgs (.Call (.Name (Str.ofString "get_varint") p1) [.Name (Str.ofString "cut") p2, .Call (.Name (Str.ofString "len") p3) [.Name (Str.ofString "ahead") p4] [] p5] [] p6) (lamS [((Str.ofString "ahead"), .free), ((Str.ofString "cut"), .free), ((Str.ofString "get_varint"), .globalImplicit), ((Str.ofString "len"), .globalImplicit)]) [((Str.ofString "cut"), cC), ((Str.ofString "ahead"), cA)] pm cdv ctv))
  (hcd : s.heap.CodeRec cdv qual) (hca : s.heap.IsCell cA (some (.bytes ba ta))) (hcc : s.heap.IsCell cC (some (.bytes bc tc))) (hba : KBw.bInts ba = ka) (hla : ka.length ≤ 2) (hb : KBw.bInts bc = ka ++ ks.take v.toNat) (W : Wri x size ks) (hs : size = 1 ∨ size = 2 ∨ size = 4 ∨ size = 8) (v0 : 0 ≤ v) (v1 : v < size)
  (hR : ∀ e dx od h' tk, FlyD base s.heap l e 51 dx od h' → R (.error (.ref e)) { s with heap := h', toks := tk }) :
  codeAny (model PySem.Challenge.rw_no0060_01.row.prog w) A (.call (.ref f) ⟨[], []⟩) R s := by
  have wl := W.len
  have hll : ((ka ++ ks.take v.toNat).length : Int) = ka.length + v := by
    rw [List.length_append, List.length_take, Nat.min_eq_left (by omega)]
    omega
  have hl1 : (ka ++ ks.take v.toNat).length ≤ 100 := by omega
  by_cases hv : v = 0
  · exact lamC_R1 w (sz := size) G ho hdata hcd hca hcc hba (by omega) hb hl1 (by omega) hR
  · exact lamC_R2 w (sz := size) G ho hdata hcd hca hcc hba (by omega) hb hl1 (by omega) (cut_first W hs (by omega)) (by omega) hR
theorem nrT5 (w : World) {mean : ExcName → Option Value} {mg mb : Str → Option Value} {gd : Option (List Code)} {base g0 g : Heap} {l : List Env} {s : Shared} {L b c : Addr} {m : Str → Option Value} {Q : Flow → Shared → Prop} {E : Value → Shared → Prop} {x : Int} {tx tl tb tf ts td ta tc : Tok} {oN oS oA oC ob oc : Obj} {nt nt0 : List (Addr × Obj)} {ps : Array Value} {first size v : Int} {bb d ba bc : Array UInt8} {ka ks : List Int}
  (H : NrAt w mean mg mb gd base g0 g l L b c x tx oN oS oA oC ob oc (tabObj ps) nt (nrM2 d td first tf b bb tb x tl m) s.heap)
  (I : TabI nrQ ps nt0) (hsub : ∀ q ∈ nt0, q ∈ nt) (dA : oA.data = .cell (some (.bytes ba ta))) (dC : oC.data = .cell (some (.bytes bc tc))) (hba : KBw.bInts ba = ka) (hla : ka.length ≤ 2) (hbc : KBw.bInts bc = ka ++ ks.take v.toNat) (W : Wri x size ks) (hs : size = 1 ∨ size = 2 ∨ size = 4 ∨ size = 8) (v0 : 0 ≤ v) (v1 : v < size)
  (hQ : ∀ g' ce ps' h' tk', NrAt w mean mg mb gd base g0 g' l L b c x tx oN oS oA oC ob oc (tabObj ps') (ce ++ nt) (nrM2 d td first tf b bb tb x tl m) h' → TabI nrQ ps' (ce ++ nt0) → (∀ p ∈ ce, ∀ q ∈ nt, @LT.lt Nat _ q.1 p.1) → Q .next { s with heap := h', toks := tk' }) :
  wpAny (model PySem.Challenge.rw_no0060_01.row.prog w) ((zA 353 175 l gd).deeper (nrEnv L)) (exec (stAt nrLoop 5) (nrEnv L)) Q E s := by
  have hfill : (Mine.hd.heap_1 w.params).In g → PySem.Challenge.rw_no0060_01 = PySem.Challenge.rw_no0060_01 := by k_fill; intro _; rfl
  clear hfill
  obtain ⟨F, N, B, X, T, ⟨l1, l2, l3⟩, ⟨n1, n2, n3⟩, dN, x0, x1, ⟨A', s₀, G⟩, tn, cd, hnt⟩ := H
  obtain ⟨S, hS⟩ : ∃ S, S = nrScope := ⟨_, rfl⟩
  obtain ⟨st, hst⟩ : ∃ S, S = stAt nrLoop 5 := ⟨_, rfl⟩
  unfold nrEnv
  rw [← hS, ← hst]
  conv at hS => rhs; whnf
  conv at hst => rhs; whnf
  subst hS hst
  (repeat' (first | (k_unfold; (try dsimp only)) | (k_end; wrow_close) | ((with_reducible show wpAny _ _ (callWith _ (Value.ref _) _ _ _) _ _ _); first | (with_reducible (k_dflt (refine' callWith_K ?k1 ?k2 ?_; (case k1 => k_asm); (case k2 => k_is); k_whole))) | (k_dflt (refine' callWith_K ?k1 ?k2 ?_; (case k1 => k_asm); (case k2 => k_is); k_whole))) | ((with_reducible show wpAny _ _ (call (Value.ref 172) _) _ _ _); first | (with_reducible ((rename Fr _ _ _ _ => F3); (rename News _ _ _ _ => N3); (with_unfolding_all refine wpAny_call (refused_S w (Gr.pushX G B F3 rfl rfl (by decide) (by decide)) (N3 _ (.head _)).1 rfl (fun A2 l2 s2 R2 G2 hk2 hR2 => lamC_R w G2 (hk2 _ _ (N3 _ (.head _)).1) rfl (hcr'.keeps hk2) ⟨oA, hk2 _ _ (N3 (L + 1 + 1 + 1, oA) (by k_mem)).1, dA⟩ ⟨oC, hk2 _ _ (N3 (L + 1 + 1 + 1 + 1, oC) (by k_mem)).1, dC⟩ hba hla hbc W hs v0 v1 hR2) (fun t2 h2 tk2 TT => ?_))); (obtain ⟨g2, T2, F4, N4, B4⟩ := turned B F3 N3 rfl TT); (with_unfolding_all have X4 := G.K.keeps B4.stays); (with_unfolding_all have T4 := G.top.keeps B4.stays); (have tn4 := tn.trans T2); clear F3 N3 B X T tn; (try dsimp only))) | ((rename Fr _ _ _ _ => F3); (rename News _ _ _ _ => N3); (with_unfolding_all refine wpAny_call (refused_S w (Gr.pushX G B F3 rfl rfl (by decide) (by decide)) (N3 _ (.head _)).1 rfl (fun A2 l2 s2 R2 G2 hk2 hR2 => lamC_R w G2 (hk2 _ _ (N3 _ (.head _)).1) rfl (hcr'.keeps hk2) ⟨oA, hk2 _ _ (N3 (L + 1 + 1 + 1, oA) (by k_mem)).1, dA⟩ ⟨oC, hk2 _ _ (N3 (L + 1 + 1 + 1 + 1, oC) (by k_mem)).1, dC⟩ hba hla hbc W hs v0 v1 hR2) (fun t2 h2 tk2 TT => ?_))); (obtain ⟨g2, T2, F4, N4, B4⟩ := turned B F3 N3 rfl TT); (with_unfolding_all have X4 := G.K.keeps B4.stays); (with_unfolding_all have T4 := G.top.keeps B4.stays); (have tn4 := tn.trans T2); clear F3 N3 B X T tn; (try dsimp only))) | ((with_reducible show wpAny _ _ (eval (Expr.Lambda ..) _) _ _ _); first | (with_reducible ((rename Fr _ _ _ _ => F3); (rename News _ _ _ _ => N3); (with_unfolding_all refine' lam_make (pre := [(L + 1 + 1 + 1 + 1, oC), (L + 1 + 1 + 1, oA), (L + 1 + 1, oS), (L + 1, oN), (b, ob), (c, oc), (174, tabObj ps)]) (nt := nt) F3 N3 T (cd.keeps B.stays) rfl ?U I hsub ?hP ?hdef ?hq ?hcl ?_; (case U => k_updF); (case hP => exact fun q hq => (hnt q hq).2.1); (case hdef => with_unfolding_all exact rfl); (case hq => with_unfolding_all exact rfl); (case hcl => with_unfolding_all exact rfl)); (intro f' c' ctv' ps' ce' h' tk' F' N' hcr' I' lce' l1'); (try dsimp only [List.cons_append, List.nil_append] at N'); clear F3 N3)) | ((rename Fr _ _ _ _ => F3); (rename News _ _ _ _ => N3); (with_unfolding_all refine' lam_make (pre := [(L + 1 + 1 + 1 + 1, oC), (L + 1 + 1 + 1, oA), (L + 1 + 1, oS), (L + 1, oN), (b, ob), (c, oc), (174, tabObj ps)]) (nt := nt) F3 N3 T (cd.keeps B.stays) rfl ?U I hsub ?hP ?hdef ?hq ?hcl ?_; (case U => k_updF); (case hP => exact fun q hq => (hnt q hq).2.1); (case hdef => with_unfolding_all exact rfl); (case hq => with_unfolding_all exact rfl); (case hcl => with_unfolding_all exact rfl)); (intro f' c' ctv' ps' ce' h' tk' F' N' hcr' I' lce' l1'); (try dsimp only [List.cons_append, List.nil_append] at N'); clear F3 N3)) | walk1 | (dsimp only; walk1) | (leave1; (try dsimp only)) | fail "no step"))
  rename Fr _ _ _ _ => F9
  rename News _ _ _ _ => N9
  refine hQ g2 ce' ps' _ _ ⟨F9, fun p hp => N9 p (.tail _ hp), B4, X4, T4, ⟨l1, l2, l3⟩, ⟨n1, n2, n3⟩, dN, x0, x1, ⟨A', s₀, G⟩, tn4, cd, fun p hp => ?_⟩ I' fun p hp q hq => lce' p hp q (List.mem_append_right _ hq)
  rcases List.mem_append.mp hp with hp | hp
  · exact ⟨Nat.ne_of_gt (lce' p hp (b, ob) (by k_mem)), Nat.ne_of_gt (lce' p hp (174, tabObj ps) (by k_mem)), .inr (lce' p hp (L + 1 + 1 + 1 + 1, oC) (by k_mem))⟩
  · exact hnt p hp
end Mine
end

section
open PySem PySem.W PySem.Spec PySem.Calls PyProof.Rows
set_option maxRecDepth 100000
set_option maxHeartbeats 8000000
namespace Mine
noncomputable abbrev nrM7 (a : Addr) (d : Array UInt8) (td : Tok) (first : Int) (tf : Tok) (b : Addr) (bb : Array UInt8) (tb : Tok) (x : Int) (tl : Tok) (m : Str → Option Value) : Str → Option Value := fun y => if y = Str.ofString "told" then some (.ref a) else if y = Str.ofString "data" then some (.bytes d td) else if y = Str.ofString "first" then some (.int first tf) else if y = Str.ofString "behind" then some (.bytes bb tb) else if y = Str.ofString "least" then some (.int (leastOf x) tl) else if y = Str.ofString "box" then some (.ref b) else m y
theorem told_rest {size : Int} {ks kb : List Int} (hs : (ks.length : Int) = size) : List.take (clipAt (ks ++ kb).length ((ks.length + kb.length : Nat) : Int) - clipAt (ks ++ kb).length size) (List.drop (clipAt (ks ++ kb).length size) (ks ++ kb)) = kb := by
  have hl : (ks ++ kb).length = ks.length + kb.length := List.length_append
  rw [clip_nat (by omega) (by omega), clip_nat (by omega) (by omega), show size.toNat = ks.length by omega, List.drop_left]
  exact List.take_of_length_le (by omega)
noncomputable def AllNe (d : Nat) : List (Addr × Obj) → Prop
  | [] => True
  | p :: r => @Ne Nat p.1 d ∧ AllNe d r
theorem allNe_new {h₀ h : Heap} {L ax : Addr} (e : h.get? ax = none) : ∀ {news : List (Addr × Obj)}, News h₀ L h news → AllNe ax news
  | [], _ => trivial
  | p :: _, N => And.intro (fun q => by
      have z := (N p (.head _)).1
      rw [q, e] at z
      cases z) (allNe_new e fun q hq => N q (.tail _ hq))
theorem Gr.of {w : World} {mean : ExcName → Option Value} {mg mb : Str → Option Value} {D U D' U' : Nat} {A A' : Around} {base g : Heap} {l l' : List Env} {s s' : Shared} {L a : Addr} {m : Str → Option Value} {name : Str} {scope : Scope} {cd : Value} (G : Gr w mean mg mb D U A base l s) (K : Below A' base l' g) (F : Fr g L s'.heap m)
    (hh : A'.handled = none) (hd : A'.depth + 1 ≤ D') (hu : A'.units + 3 ≤ U') (hk : scope.kind = .function := by rfl) : Gr w mean mg mb D' U' (A'.deeper (envOf name scope L a cd)) base (envOf name scope L a cd :: l') s' :=
  ⟨K.push F hk, G.K, G.top, G.b0, hh, hd, hu⟩
theorem gv_told {x size : Int} {ks kb : List Int} (W : Wri x size ks) (hs : size = 1 ∨ size = 2 ∨ size = 4 ∨ size = 8) : szOf (((ks ++ kb).getD (Int.toNat 0) 0).fdiv (2 ^ Int.toNat 6)) = size := by
  have h := gv_data (ka := []) (kb := kb) W hs
  exact h
theorem told_val {x size : Int} {ks kb : List Int} (W : Wri x size ks) : bv (List.take size.toNat (List.drop (Int.toNat 0) (ks ++ kb))) % 2 ^ (8 * size - 2).toNat = x := by
  have h := mid_take (ka := []) (ks := ks) (kb := kb) (n := size.toNat) (by have := W.len; omega)
  have h2 : List.take size.toNat (List.drop (Int.toNat 0) (ks ++ kb)) = ks := h
  rw [h2]
  exact W.rd
theorem nrT6 (w : World) {mean : ExcName → Option Value} {mg mb : Str → Option Value} {gd : Option (List Code)} {base g0 g : Heap} {l : List Env} {s : Shared} {L b c : Addr} {m : Str → Option Value} {Q : Flow → Shared → Prop} {E : Value → Shared → Prop} {x : Int} {tx tl tb tf ts td : Tok} {oN oS oA oC ob oc ot : Obj} {nt : List (Addr × Obj)} {first size : Int} {bb d : Array UInt8}
  (H : NrAt w mean mg mb gd base g0 g l L b c x tx oN oS oA oC ob oc ot nt (nrM2 d td first tf b bb tb x tl m) s.heap)
  (hs : size = 1 ∨ size = 2 ∨ size = 4 ∨ size = 8) {ks kb : List Int} (hb : KBw.bInts d = ks) (W : Wri x size ks) (hbb : KBw.bInts bb = kb) (hlb : kb.length ≤ 2)
  (hQ : ∀ a h' tk', NrAt w mean mg mb gd base g0 g l L b c x tx oN oS oA oC ob oc ot nt (nrM7 a d td first tf b bb tb x tl m) h' → Q .next { s with heap := h', toks := tk' }) :
  wpAny (model PySem.Challenge.rw_no0060_01.row.prog w) ((zA 353 175 l gd).deeper (nrEnv L)) (execs [stAt nrLoop 6, stAt nrLoop 7] (nrEnv L)) Q E s := by
  have hfill : (Mine.hd.heap_1 w.params).In g → PySem.Challenge.rw_no0060_01 = PySem.Challenge.rw_no0060_01 := by k_fill; intro _; rfl
  clear hfill
  obtain ⟨F, N, B, X, T, ⟨l1, l2, l3⟩, ⟨n1, n2, n3⟩, dN, x0, x1, ⟨A', s₀, G⟩, tn, cd, hnt⟩ := H
  obtain ⟨S, hS⟩ : ∃ S, S = nrScope := ⟨_, rfl⟩
  obtain ⟨st, hst⟩ : ∃ S, S = stAt nrLoop 6 := ⟨_, rfl⟩
  obtain ⟨st', hst'⟩ : ∃ S, S = stAt nrLoop 7 := ⟨_, rfl⟩
  unfold nrEnv
  rw [← hS, ← hst, ← hst']
  conv at hS => rhs; whnf
  conv at hst => rhs; whnf
  conv at hst' => rhs; whnf
  subst hS hst hst'
  obtain ⟨wl, wh, wv, w0, wr⟩ := id W
  have hk8 : ks.length ≤ 100 := by omega
  have hkb : kb.length ≤ 100 := by omega
  have hpos : ∀ k ∈ ks ++ kb, 0 ≤ k := fun k hk => by
    rcases List.mem_append.mp hk with hk | hk
    · exact (w0 k hk).1
    · exact (KBw.ints_in (hbb ▸ hk)).1
  have h31 : (ks ++ kb).length ≤ 100 := by rw [List.length_append]; omega
  have h32 : (0 : Int) < ((ks ++ kb).length : Int) := by rw [List.length_append]; omega
  have h33 : 0 + size ≤ ((ks ++ kb).length : Int) := by rw [List.length_append]; omega
  (repeat' (first | (k_unfold; (try dsimp only)) | (k_end; wrow_close) | ((with_reducible show wpAny _ _ (call (Value.ref 90) _) _ _ _); first | (with_reducible ((rename Below _ _ _ _ => B3); (rename Fr _ _ _ _ => F3); (rename News _ _ _ _ => N3); (refine wpAny_call (gv_c w (Gr.of G B3 F3 rfl (Nat.le_of_ble_eq_true rfl) (Nat.le_of_ble_eq_true rfl)) (by assumption) (ks := ks ++ kb) h31 (by decide) h32 (gv_told W hs) h33 hpos fun ax nx t1 t2 h' tk hk hz hax hax2 => ?_)); (rw [told_val W] at hax2); (have ln := allNe_new hax N3); (simp only [AllNe, and_true] at ln); (have F4 := F3.keeps hk); (have N4 := News.more F4 (N3.grown hk) hax2 (fun es n q => by cases q) (kts_none F3.keep hax)); clear F3 N3; (try dsimp only))) | ((rename Below _ _ _ _ => B3); (rename Fr _ _ _ _ => F3); (rename News _ _ _ _ => N3); (refine wpAny_call (gv_c w (Gr.of G B3 F3 rfl (Nat.le_of_ble_eq_true rfl) (Nat.le_of_ble_eq_true rfl)) (by assumption) (ks := ks ++ kb) h31 (by decide) h32 (gv_told W hs) h33 hpos fun ax nx t1 t2 h' tk hk hz hax hax2 => ?_)); (rw [told_val W] at hax2); (have ln := allNe_new hax N3); (simp only [AllNe, and_true] at ln); (have F4 := F3.keeps hk); (have N4 := News.more F4 (N3.grown hk) hax2 (fun es n q => by cases q) (kts_none F3.keep hax)); clear F3 N3; (try dsimp only))) | walk1 | (dsimp only; walk1) | (leave1; (try dsimp only)) | fail "no step"))
  · rename ¬ _ => z
    exact absurd rfl z
  · rename ¬ _ => z
    exact absurd (by omega) z
  · rename KBw.bInts (KBy.picked _ _ _) = _ => kz
    rename (_ != _) = true => z
    have e1 : (0 + size + (((ks.length + kb.length : Nat) : Int) - (0 + size)) - (((ks.length + kb.length : Nat) : Int) - (0 + size))) = size := by omega
    have e2 : (0 + size + (((ks.length + kb.length : Nat) : Int) - (0 + size))) = ((ks.length + kb.length : Nat) : Int) := by omega
    rw [e1, e2] at kz z
    rw [bInts_inj (kz.trans ((told_rest wl).trans hbb.symm)), bne_self_eq_false] at z
    cases z
  · rename Fr _ _ _ _ => F9
    rename News _ _ _ _ => N9
    exact hQ _ _ _ ⟨F9, fun p hp => N9 p (.tail _ (.tail _ (.tail _ hp))), B, X, T, ⟨l1, l2, l3⟩, ⟨n1, n2, n3⟩, dN, x0, x1, ⟨A', s₀, G⟩, tn, cd, hnt⟩
end Mine
end

section
open PySem PySem.W PySem.Spec PySem.Calls PyProof.Rows
set_option maxRecDepth 100000
set_option maxHeartbeats 8000000
namespace Mine
theorem nrT0b (w : World) {mean : ExcName → Option Value} {mg mb : Str → Option Value} {gd : Option (List Code)} {base g0 g : Heap} {l : List Env} {s : Shared} {L b c : Addr} {m : Str → Option Value} {Q : Flow → Shared → Prop} {E : Value → Shared → Prop} {x : Int} {tx tl tb tf ts : Tok} {oN oS oA oC ob oc ot : Obj} {nt : List (Addr × Obj)} {first size : Int} {bb : Array UInt8}
  (H : NrAt w mean mg mb gd base g0 g l L b c x tx oN oS oA oC ob oc ot nt (nrM1 first tf b bb tb x tl m) s.heap)
  (dS : oS.data = .cell (some (.int size ts))) (hlt : leastOf x ≤ size)
  (hQ : ∀ h' tk', NrAt w mean mg mb gd base g0 g l L b c x tx oN oS oA oC ob oc ot nt (nrM1 first tf b bb tb x tl m) h' → Q .next { s with heap := h', toks := tk' }) :
  wpAny (model PySem.Challenge.rw_no0060_01.row.prog w) ((zA 353 175 l gd).deeper (nrEnv L)) (exec (stAt nrLoop 0) (nrEnv L)) Q E s := by
  have hfill : (Mine.hd.heap_1 w.params).In g → PySem.Challenge.rw_no0060_01 = PySem.Challenge.rw_no0060_01 := by k_fill; intro _; rfl
  clear hfill
  obtain ⟨F, N, B, X, T, ⟨l1, l2, l3⟩, ⟨n1, n2, n3⟩, dN, x0, x1, ⟨A', s₀, G⟩, tn, cd, hnt⟩ := H
  obtain ⟨S, hS⟩ : ∃ S, S = nrScope := ⟨_, rfl⟩
  obtain ⟨st, hst⟩ : ∃ S, S = stAt nrLoop 0 := ⟨_, rfl⟩
  unfold nrEnv
  rw [← hS, ← hst]
  conv at hS => rhs; whnf
  conv at hst => rhs; whnf
  subst hS hst
  have hlt' : ¬ size < leastOf x := by omega
  k_steps
  rename Fr _ _ _ _ => F9
  rename News _ _ _ _ => N9
  exact hQ _ _ ⟨F9, N9, B, X, T, ⟨l1, l2, l3⟩, ⟨n1, n2, n3⟩, dN, x0, x1, ⟨A', s₀, G⟩, tn, cd, hnt⟩
theorem nrM_eq {m : Str → Option Value} {b : Addr} {bb : Array UInt8} {tb tl : Tok} {x : Int} (h1 : m (Str.ofString "behind") = some (.bytes bb tb)) (h2 : m (Str.ofString "least") = some (.int (leastOf x) tl)) (h3 : m (Str.ofString "box") = some (.ref b)) : m = nrM b bb tb x tl m := by
  funext y
  by_cases e1 : y = Str.ofString "behind"
  · subst e1
    exact h1
  · by_cases e2 : y = Str.ofString "least"
    · subst e2
      show _ = if _ then _ else _
      rw [if_neg e1, if_pos rfl]
      exact h2
    · by_cases e3 : y = Str.ofString "box"
      · subst e3
        show _ = if _ then _ else _
        rw [if_neg e1, if_neg e2, if_pos rfl]
        exact h3
      · show _ = if _ then _ else _
        rw [if_neg e1, if_neg e2, if_neg e3]
theorem nrLoop_is : nrLoop = [stAt nrLoop 0, stAt nrLoop 1, stAt nrLoop 2, stAt nrLoop 3, stAt nrLoop 4, stAt nrLoop 5, stAt nrLoop 6, stAt nrLoop 7] := by with_unfolding_all rfl
/-- one turn of the loop -/
theorem nrTurn (w : World) {mean : ExcName → Option Value} {mg mb : Str → Option Value} {gd : Option (List Code)} {base g0 g : Heap} {l : List Env} {s : Shared} {L b c : Addr} {m : Str → Option Value} {Q : Flow → Shared → Prop} {x : Int} {tx tl tb tf ts ta : Tok} {oN oS oA oC : Obj} {nt nt0 : List (Addr × Obj)} {ps : Array Value} {first size : Int} {bb ba : Array UInt8} {ka kb : List Int}
  {k r : Int} {tk tr : Tok} {nb nc : Nat} {vs : List Value} {ns : List Int} {cv : Option Value}
  (H : NrAt w mean mg mb gd base g0 g l L b c x tx oN oS oA oC (boxO c k r tk tr nb) (listOf vs.toArray nc) (tabObj ps) nt (nrM1 first tf b bb tb x tl m) s.heap)
  (I : TabI nrQ ps nt0) (hsub : ∀ q ∈ nt0, q ∈ nt)
  (dS : oS.data = .cell (some (.int size ts))) (dA : oA.data = .cell (some (.bytes ba ta))) (dC : oC.data = .cell cv) (hs : size = 1 ∨ size = 2 ∨ size = 4 ∨ size = 8) (hfi : first = idxOf size)
  (hba : KBw.bInts ba = ka) (hbb : KBw.bInts bb = kb) (hla : ka.length ≤ 2) (hlb : kb.length ≤ 2)
  (hi : IntsAre vs ns) (h0 : ∀ x ∈ ns, 0 ≤ x) (hlen : ns.length ≤ 24) (k0 : 0 ≤ k) (k1 : k < 2 ^ 30) (r0 : 0 ≤ r) (r1 : r < 2 ^ 40)
  (hQ : ∀ f g' oC' cv' k' tk2 ps' ce m' h' tk', f = .next ∨ f = .cont → NrAt w mean mg mb gd base g0 g' l L b c x tx oN oS oA oC' (boxO c k' r tk2 tr nb) (listOf vs.toArray nc) (tabObj ps') (ce ++ nt) (nrM b bb tb x tl m') h' → oC'.data = .cell cv' → k ≤ k' → k' ≤ k + 1 →
    TabI nrQ ps' (ce ++ nt0) → (∀ p ∈ ce, ∀ q ∈ nt, @LT.lt Nat _ q.1 p.1) → Q f { s with heap := h', toks := tk' }) :
  wpC (model PySem.Challenge.rw_no0060_01.row.prog w) ((zA 353 175 l gd).deeper (nrEnv L)) (execs nrLoop (nrEnv L)) Q NoE s := by
  rw [nrLoop_is]
  have x0 := H.x0
  have x1 := H.x1
  by_cases hlt : size < leastOf x
  · refine execs_C (wpC_any (nrT0 w H I hsub dS hlt fun g' ce ps' h' tk' H' I' hce => ?_))
    exact hQ .cont _ _ _ k tk ps' ce _ _ _ (.inr rfl) ((nrM_eq (m := nrM1 first tf b bb tb x tl m) rfl rfl rfl) ▸ H') dC (Int.le_refl _) (by omega) I' hce
  · refine execs_C (wpC_any (nrT0b w H dS (by omega) fun h' tk' H => ?_))
    refine execs_C (nrT1 w H dS hs (by omega) fun d td h' tk' hd H => ?_)
    have W := wri x0 x1 hs (by omega) hd
    refine execs_C (wpC_any (nrT2 w H dS hs (by omega) hfi rfl W fun h' tk' H => ?_))
    refine execs_C (wpC_any (nrT3 w H dS hs (by omega) hfi rfl W dA hba hbb hla hlb fun h' tk' H => ?_))
    refine execs_C (wpC_any (nrT4 w H dS (by omega) (by omega) rfl W.len dA hba hla dC hi h0 hlen k0 k1 r0 r1 fun h' tk' tk2 oC' bc tc v dC' v0 v1 hbc H => ?_))
    refine execs_C (wpC_any (nrT5 w (ts := ts) H I hsub dA dC' hba hla hbc W hs v0 v1 fun g' ce ps' h' tk' H I' hce => ?_))
    refine wpC_any (nrT6 w (ts := ts) H hs rfl W hbb hlb fun a h' tk' H => ?_)
    exact hQ .next _ _ _ (k + 1) tk2 ps' ce _ _ _ (.inl rfl) ((nrM_eq (m := nrM7 a d td first tf b bb tb x tl m) rfl rfl rfl) ▸ H) dC' (by omega) (Int.le_refl _) I' hce
end Mine
end

section
open PySem PySem.W PySem.Spec PySem.Calls PyProof.Rows
set_option maxRecDepth 100000
set_option maxHeartbeats 8000000
namespace Mine
noncomputable def forTgt : Stmt → PySem.Expr
  | .For t _ _ _ _ => t
  | _ => default
noncomputable def forIter : Stmt → PySem.Expr
  | .For _ e _ _ _ => e
  | _ => default
noncomputable def forPos : Stmt → Pos
  | .For _ _ _ _ p => p
  | _ => default
noncomputable abbrev tup2 (a b : Int) (t u : Tok) (n : Nat) : Obj := { cls := .type "tuple", data := .seq #[.int a t, .int b u] n }
noncomputable abbrev nrTgt : PySem.Expr := forTgt (stAt nrBody 3)
noncomputable abbrev nrIter : PySem.Expr := forIter (stAt nrBody 3)
theorem nrAssign (w : World) {mean : ExcName → Option Value} {mg mb : Str → Option Value} {gd : Option (List Code)} {base g0 g : Heap} {l : List Env} {s : Shared} {L b c a : Addr} {m : Str → Option Value} {Q : Unit → Shared → Prop} {E : Value → Shared → Prop} {x : Int} {tx tl tb t1 t2 : Tok} {n : Nat} {oN oS oA oC ob oc ot : Obj} {nt : List (Addr × Obj)} {first size : Int} {bb : Array UInt8} {cs : Option Value}
  (H : NrAt w mean mg mb gd base g0 g l L b c x tx oN oS oA oC ob oc ot nt (nrM b bb tb x tl m) s.heap) (dS : oS.data = .cell cs)
  (hm : (a, tup2 size first t1 t2 n) ∈ nt)
  (hQ : ∀ oS' ts tf h' tk', oS'.data = .cell (some (.int size ts)) → NrAt w mean mg mb gd base g0 g l L b c x tx oN oS' oA oC ob oc ot nt (nrM1 first tf b bb tb x tl m) h' → Q () { s with heap := h', toks := tk' }) :
  wpAny (model PySem.Challenge.rw_no0060_01.row.prog w) ((zA 353 175 l gd).deeper (nrEnv L)) (assign nrTgt (nrEnv L) (.ref a)) Q E s := by
  have hfill : (Mine.hd.heap_1 w.params).In g → PySem.Challenge.rw_no0060_01 = PySem.Challenge.rw_no0060_01 := by k_fill; intro _; rfl
  clear hfill
  obtain ⟨F, N, B, X, T, ⟨l1, l2, l3⟩, ⟨n1, n2, n3⟩, dN, x0, x1, ⟨A', s₀, G⟩, tn, cd, hnt⟩ := H
  obtain ⟨S, hS⟩ : ∃ S, S = nrScope := ⟨_, rfl⟩
  obtain ⟨st, hst⟩ : ∃ S, S = nrTgt := ⟨_, rfl⟩
  unfold nrEnv
  rw [← hS, ← hst]
  conv at hS => rhs; whnf
  conv at hst => rhs; whnf
  subst hS hst
  have na := (hnt _ hm).2.2
  have na2 := (hnt _ hm).1
  have na3 := (hnt _ hm).2.1
  dsimp only at na na2 na3
  have N' : News g L s.heap ((a, tup2 size first t1 t2 n) :: (L + 1 + 1 + 1 + 1, oC) :: (L + 1 + 1 + 1, oA) :: (L + 1 + 1, oS) :: (L + 1, oN) :: (b, ob) :: (c, oc) :: (174, ot) :: nt) := fun p hp => by
    rcases List.mem_cons.mp hp with rfl | hp
    · exact N _ (.tail _ (.tail _ (.tail _ (.tail _ (.tail _ (.tail _ (.tail _ hm)))))))
    · exact N _ hp
  clear N
  k_steps
  rename Fr _ _ _ _ => F9
  rename News _ _ _ _ => N9
  rename _ = Data.cell (some (Value.int size _)) => dS9
  exact hQ _ _ _ _ _ dS9 ⟨F9, fun p hp => N9 p (.tail _ hp), B, X, T, ⟨l1, l2, l3⟩, ⟨n1, n2, n3⟩, dN, x0, x1, ⟨A', s₀, G⟩, tn, cd, hnt⟩
theorem fr_extBut {g h h' : Heap} {L it : Addr} {m : Str → Option Value} (F : Fr g L h m) (hs : Heap.ExtBut it h h') (hL : it ≠ L) (hn : g.get? it = none) : Fr g L h' m := by
  obtain ⟨oL, a1, a2, hoL, a3⟩ := F.ns
  refine ⟨⟨oL, a1, a2, hs L oL (Ne.symm hL) hoL, a3⟩, fun b o e => hs b o (fun q => ?_) (F.keep b o e), F.above⟩
  rw [q, hn] at e
  cases e
section
variable {w : World} {mean : ExcName → Option Value} {mg mb : Str → Option Value} {gd : Option (List Code)} {base g0 g : Heap} {l : List Env} {L b c it : Addr} {m : Str → Option Value} {x : Int} {tx tl tb : Tok} {oN oS oA oC ob oc ot oI oI' : Obj} {nt nt' : List (Addr × Obj)} {h h' : Heap}
theorem NrAt.tail (H : NrAt w mean mg mb gd base g0 g l L b c x tx oN oS oA oC ob oc ot nt m h) (hs : ∀ p ∈ nt', p ∈ nt) : NrAt w mean mg mb gd base g0 g l L b c x tx oN oS oA oC ob oc ot nt' m h :=
  ⟨H.F, fun p hp => H.N p (by
    simp only [List.mem_cons] at hp ⊢
    rcases hp with h | h | h | h | h | h | h | h
    · exact .inl h
    · exact .inr (.inl h)
    · exact .inr (.inr (.inl h))
    · exact .inr (.inr (.inr (.inl h)))
    · exact .inr (.inr (.inr (.inr (.inl h))))
    · exact .inr (.inr (.inr (.inr (.inr (.inl h)))))
    · exact .inr (.inr (.inr (.inr (.inr (.inr (.inl h))))))
    · exact .inr (.inr (.inr (.inr (.inr (.inr (.inr (hs _ h)))))))), H.B, H.X, H.T, H.lt, H.ne, H.dN, H.x0, H.x1, H.G, H.tn, H.cd, fun p hp => H.nt p (hs p hp)⟩
theorem NrAt.extBut (H : NrAt w mean mg mb gd base g0 g l L b c x tx oN oS oA oC ob oc ot ((it, oI) :: nt) m h) (hs : Heap.ExtBut it h h') (hne : ∀ p ∈ nt, @Ne Nat p.1 it) (hit : @LT.lt Nat _ (L + 1 + 1 + 1 + 1) it) :
    NrAt w mean mg mb gd base g0 g l L b c x tx oN oS oA oC ob oc ot nt m h' := by
  have z := H.N (it, oI) (.tail _ (.tail _ (.tail _ (.tail _ (.tail _ (.tail _ (.tail _ (.head _))))))))
  obtain ⟨l1, l2, l3⟩ := H.lt
  refine ⟨fr_extBut H.F hs z.2.1 z.2.2, fun p hp => ?_, H.B, H.X, H.T, H.lt, H.ne, H.dN, H.x0, H.x1, H.G, H.tn, H.cd, fun p hp => H.nt p (.tail _ hp)⟩
  have hn : @Ne Nat p.1 it := by
    simp only [List.mem_cons] at hp
    rcases hp with rfl | rfl | rfl | rfl | rfl | rfl | rfl | hp
    · exact fun q => by dsimp only at q; omega
    · exact fun q => by dsimp only at q; omega
    · exact fun q => by dsimp only at q; omega
    · exact fun q => by dsimp only at q; omega
    · exact fun q => by dsimp only at q; omega
    · exact fun q => by dsimp only at q; omega
    · exact fun q => by dsimp only at q; omega
    · exact hne p hp
  have zp := H.N p (by
    simp only [List.mem_cons] at hp ⊢
    rcases hp with h | h | h | h | h | h | h | h
    · exact .inl h
    · exact .inr (.inl h)
    · exact .inr (.inr (.inl h))
    · exact .inr (.inr (.inr (.inl h)))
    · exact .inr (.inr (.inr (.inr (.inl h))))
    · exact .inr (.inr (.inr (.inr (.inr (.inl h)))))
    · exact .inr (.inr (.inr (.inr (.inr (.inr (.inl h))))))
    · exact .inr (.inr (.inr (.inr (.inr (.inr (.inr (.inr h))))))))
  exact ⟨hs _ _ hn zp.1, zp.2⟩
theorem NrAt.iter (H : NrAt w mean mg mb gd base g0 g l L b c x tx oN oS oA oC ob oc ot ((it, oI) :: nt) m h) (hs : Heap.SameBut it h h') (hit' : h'.get? it = some oI') (hne : ∀ p ∈ nt, @Ne Nat p.1 it) (hit : @LT.lt Nat _ (L + 1 + 1 + 1 + 1) it) :
    NrAt w mean mg mb gd base g0 g l L b c x tx oN oS oA oC ob oc ot ((it, oI') :: nt) m h' := by
  have z := H.N (it, oI) (.tail _ (.tail _ (.tail _ (.tail _ (.tail _ (.tail _ (.tail _ (.head _))))))))
  have K := H.extBut hs.extBut hne hit
  have hh := H.nt (it, oI) (.head _)
  refine ⟨K.F, fun p hp => ?_, K.B, K.X, K.T, K.lt, K.ne, K.dN, K.x0, K.x1, K.G, K.tn, K.cd, fun p hp => ?_⟩
  · simp only [List.mem_cons] at hp
    by_cases q : p = (it, oI')
    · subst q
      exact ⟨hit', z.2⟩
    · refine K.N p ?_
      simp only [List.mem_cons]
      rcases hp with h | h | h | h | h | h | h | h | h
      · exact .inl h
      · exact .inr (.inl h)
      · exact .inr (.inr (.inl h))
      · exact .inr (.inr (.inr (.inl h)))
      · exact .inr (.inr (.inr (.inr (.inl h))))
      · exact .inr (.inr (.inr (.inr (.inr (.inl h)))))
      · exact .inr (.inr (.inr (.inr (.inr (.inr (.inl h))))))
      · exact absurd h q
      · exact .inr (.inr (.inr (.inr (.inr (.inr (.inr h))))))
  · rcases List.mem_cons.mp hp with rfl | hp
    · exact hh
    · exact K.nt p hp
end
end Mine
end

section
open PySem PySem.W PySem.Spec PySem.Calls PyProof.Rows
set_option maxRecDepth 100000
set_option maxHeartbeats 8000000
namespace Mine
/-- the loop stands before its turn i -/
noncomputable def LpAt (w : World) (mean : ExcName → Option Value) (mg mb : Str → Option Value) (gd : Option (List Code)) (base g0 : Heap) (l : List Env) (L b c it ao : Addr) (x : Int) (tx tl tb tr : Tok) (oN oA : Obj) (bb : Array UInt8) (k0 r : Int) (nb nc : Nat) (vs : List Value) (nt1 nt00 : List (Addr × Obj)) (i : Nat) (h : Heap) : Prop :=
  ∃ g oS oC cs cv k tk2 ps ce m oI, NrAt w mean mg mb gd base g0 g l L b c x tx oN oS oA oC (boxO c k r tk2 tr nb) (listOf vs.toArray nc) (tabObj ps) ((it, oI) :: (ce ++ nt1)) (nrM b bb tb x tl m) h ∧
    oS.data = .cell cs ∧ oC.data = .cell cv ∧ h.IsTupleIter it ao i ∧ TabI nrQ ps (ce ++ nt00) ∧ (∀ p ∈ ce, @LT.lt Nat _ it p.1) ∧ k0 ≤ k ∧ k ≤ k0 + i
/-- the loop has ended -/
noncomputable def LpEnd (w : World) (mean : ExcName → Option Value) (mg mb : Str → Option Value) (gd : Option (List Code)) (base g0 : Heap) (l : List Env) (L b c it : Addr) (x : Int) (tx tl tb tr : Tok) (oN oA : Obj) (bb : Array UInt8) (k0 r : Int) (nb nc : Nat) (vs : List Value) (nt1 nt00 : List (Addr × Obj)) (h : Heap) : Prop :=
  ∃ g oS oC k tk2 ps ce m, NrAt w mean mg mb gd base g0 g l L b c x tx oN oS oA oC (boxO c k r tk2 tr nb) (listOf vs.toArray nc) (tabObj ps) (ce ++ nt1) (nrM b bb tb x tl m) h ∧
    TabI nrQ ps (ce ++ nt00) ∧ (∀ p ∈ ce, @LT.lt Nat _ it p.1) ∧ k0 ≤ k ∧ k ≤ k0 + 4
theorem tabI_perm {q : Str} {ps : Array Value} {a b : List (Addr × Obj)} (I : TabI q ps a) (hs : ∀ p ∈ a, p ∈ b) : TabI q ps b := ⟨I.1, fun pos c e => by
  obtain ⟨c', oc, vs, t, h1, h2, h3⟩ := I.2 pos c e
  exact ⟨c', oc, vs, t, h1, hs _ h2, h3⟩⟩
theorem nrLoopC (w : World) {mean : ExcName → Option Value} {mg mb : Str → Option Value} {gd : Option (List Code)} {base g0 : Heap} {l : List Env} {s : Shared} {L b c it ao : Addr} {x : Int} {tx tl tb tr ta : Tok} {oN oA : Obj} {bb ba : Array UInt8} {k0 r : Int} {nb nc n : Nat} {vs : List Value} {ns : List Int} {nt1 nt00 : List (Addr × Obj)} {ka kb : List Int} {its : Array Value} {R : Result → Shared → Prop}
  (hao : (ao, ({ cls := .type "tuple", data := .seq its n } : Obj)) ∈ nt1) (hsz : its.size = 4)
  (hits : ∀ i < 4, ∃ a sz fi t1 t2 n2, its[i]? = some (.ref a) ∧ (a, tup2 sz fi t1 t2 n2) ∈ nt1 ∧ (sz = 1 ∨ sz = 2 ∨ sz = 4 ∨ sz = 8) ∧ fi = idxOf sz)
  (hne : ∀ p ∈ nt1, @Ne Nat p.1 it) (hit : @LT.lt Nat _ (L + 1 + 1 + 1 + 1) it) (hsub : ∀ p ∈ nt00, p ∈ nt1)
  (dA : oA.data = .cell (some (.bytes ba ta))) (hba : KBw.bInts ba = ka) (hbb : KBw.bInts bb = kb) (hla : ka.length ≤ 2) (hlb : kb.length ≤ 2)
  (hi : IntsAre vs ns) (h0 : ∀ x ∈ ns, 0 ≤ x) (hlen : ns.length ≤ 24) (hk0 : 0 ≤ k0) (hk1 : k0 + 4 < 2 ^ 30) (r0 : 0 ≤ r) (r1 : r < 2 ^ 40)
  (hR : ∀ h tk, LpEnd w mean mg mb gd base g0 l L b c it x tx tl tb tr oN oA bb k0 r nb nc vs nt1 nt00 h → R (.ok .next) { s with heap := h, toks := tk })
  {cc : Code} (hcc : cc = .forLoop nrTgt (.ref it) nrLoop [] (nrEnv L)) : ∀ j i h tk, j + i = 4 → LpAt w mean mg mb gd base g0 l L b c it ao x tx tl tb tr oN oA bb k0 r nb nc vs nt1 nt00 i h →
    codeC (model PySem.Challenge.rw_no0060_01.row.prog w) ((zA 353 175 l gd).deeper (nrEnv L)) cc R { s with heap := h, toks := tk } := by
  subst hcc
  intro j
  induction j with
  | zero =>
    intro i h tk hj S
    obtain ⟨g, oS, oC, cs, cv, k, tk2, ps, ce, m, oI, H, dS, dC, hI, TI, hce, e0, e1⟩ := S
    have hi4 : i = 4 := by omega
    subst hi4
    have hneall : ∀ p ∈ ce ++ nt1, @Ne Nat p.1 it := fun p hp => by
      rcases List.mem_append.mp hp with hp | hp
      · exact Nat.ne_of_gt (hce p hp)
      · exact hne p hp
    have zt := (H.N _ (.tail _ (.tail _ (.tail _ (.tail _ (.tail _ (.tail _ (.tail _ (.tail _ (List.mem_append_right _ hao))))))))))
    refine forLoop_C (wpAny_pyNext_tuple_end rfl hI ⟨_, zt.1, rfl, _, rfl⟩ (Array.getElem?_eq_none (by omega)) fun h' hs => ?_)
    refine execs_nilC (hR h' tk ?_)
    exact ⟨g, oS, oC, k, tk2, ps, ce, m, H.extBut hs hneall hit, TI, hce, e0, by omega⟩
  | succ j ih =>
    intro i h tk hj S
    obtain ⟨g, oS, oC, cs, cv, k, tk2, ps, ce, m, oI, H, dS, dC, hI, TI, hce, e0, e1⟩ := S
    have hneall : ∀ p ∈ ce ++ nt1, @Ne Nat p.1 it := fun p hp => by
      rcases List.mem_append.mp hp with hp | hp
      · exact Nat.ne_of_gt (hce p hp)
      · exact hne p hp
    have zt := (H.N _ (.tail _ (.tail _ (.tail _ (.tail _ (.tail _ (.tail _ (.tail _ (.tail _ (List.mem_append_right _ hao))))))))))
    obtain ⟨a, sz, fi, t1, t2, n2, hx, ha, hs4, hfi⟩ := hits i (by omega)
    refine forLoop_C (wpAny_pyNext_tuple_item hI ⟨_, zt.1, rfl, _, rfl⟩ hx fun h' hI' hs => ?_)
    obtain ⟨oI', hoI', _⟩ := id hI'
    have H2 := H.iter hs hoI' hneall hit
    refine letGo_tupleiter hI' ?_
    refine nrAssign w H2 dS (.tail _ (List.mem_append_right _ ha)) fun oS' ts tf h2 tk' dS' H3 => ?_
    have hsub' : ∀ q ∈ ce ++ nt00, q ∈ (it, oI') :: (ce ++ nt1) := fun q hq => by
      rcases List.mem_append.mp hq with hq | hq
      · exact .tail _ (List.mem_append_left _ hq)
      · exact .tail _ (List.mem_append_right _ (hsub _ hq))
    refine nrTurn w (nt0 := ce ++ nt00) H3 TI hsub' dS' dA dC hs4 hfi hba hbb hla hlb hi h0 hlen (by omega) (by omega) r0 r1 fun f g' oC' cv' k' tk3 ps' ce' m' h3 tk4 hf H4 dC' e2 e3 TI' hce' => ?_
    have S' : LpAt w mean mg mb gd base g0 l L b c it ao x tx tl tb tr oN oA bb k0 r nb nc vs nt1 nt00 (i + 1) h3 := by
      have zi := H4.N (it, oI') (.tail _ (.tail _ (.tail _ (.tail _ (.tail _ (.tail _ (.tail _ (List.mem_append_right _ (.head _)))))))))
      refine ⟨g', oS', oC', _, cv', k', tk3, ps', ce' ++ ce, m', oI', H4.tail fun p hp => ?_, dS', dC', ?_, ?_, fun p hp => ?_, by omega, by omega⟩
      · rcases List.mem_cons.mp hp with rfl | hp
        · exact List.mem_append_right _ (.head _)
        · rcases List.mem_append.mp hp with hp | hp
          · rcases List.mem_append.mp hp with hp | hp
            · exact List.mem_append_left _ hp
            · exact List.mem_append_right _ (.tail _ (List.mem_append_left _ hp))
          · exact List.mem_append_right _ (.tail _ (List.mem_append_right _ hp))
      · obtain ⟨o2, ho2, r2⟩ := hI'
        rw [hoI'] at ho2
        cases ho2
        exact ⟨oI', zi.1, r2⟩
      · rw [List.append_assoc]
        exact TI'
      · rcases List.mem_append.mp hp with hp | hp
        · exact hce' p hp (it, oI') (.head _)
        · exact hce p hp
    rcases hf with rfl | rfl
    · exact ih (i + 1) h3 tk4 (by omega) S'
    · exact ih (i + 1) h3 tk4 (by omega) S'
end Mine
end

section
open PySem PySem.W PySem.Spec PySem.Calls PyProof.Rows
set_option maxRecDepth 100000
set_option maxHeartbeats 8000000
namespace Mine
theorem mem_swap {α : Type} {a b c : List α} {p : α} (h : p ∈ b ++ (a ++ c)) : p ∈ a ++ (b ++ c) := by
  rcases List.mem_append.mp h with h | h
  · exact List.mem_append_right _ (List.mem_append_left _ h)
  · rcases List.mem_append.mp h with h | h
    · exact List.mem_append_left _ h
    · exact List.mem_append_right _ (List.mem_append_right _ h)
theorem nrIterE (w : World) {mean : ExcName → Option Value} {mg mb : Str → Option Value} {gd : Option (List Code)} {base g0 g : Heap} {l : List Env} {s : Shared} {L b c : Addr} {m : Str → Option Value} {Q : Value → Shared → Prop} {E : Value → Shared → Prop} {x : Int} {tx : Tok} {oN oS oA oC ob oc ot : Obj} {nt : List (Addr × Obj)}
  (H : NrAt w mean mg mb gd base g0 g l L b c x tx oN oS oA oC ob oc ot nt m s.heap) {t : Sem Value} (ht : t = eval nrIter (nrEnv L))
  (hQ : ∀ ao a0 a1 a2 a3 t1 t2 t3 t4 t5 t6 t7 t8 n n1 n2 n3 n4 h' tk', NrAt w mean mg mb gd base g0 g l L b c x tx oN oS oA oC ob oc ot ((ao, ({ cls := .type "tuple", data := .seq #[.ref a0, .ref a1, .ref a2, .ref a3] n } : Obj)) :: (a3, tup2 8 3 t1 t2 n1) :: (a2, tup2 4 2 t3 t4 n2) :: (a1, tup2 2 1 t5 t6 n3) :: (a0, tup2 1 0 t7 t8 n4) :: nt) m h' → Q (.ref ao) { s with heap := h', toks := tk' }) :
  wpAny (model PySem.Challenge.rw_no0060_01.row.prog w) ((zA 353 175 l gd).deeper (nrEnv L)) t Q E s := by
  subst ht
  have hfill : (Mine.hd.heap_1 w.params).In g → PySem.Challenge.rw_no0060_01 = PySem.Challenge.rw_no0060_01 := by k_fill; intro _; rfl
  clear hfill
  obtain ⟨F, N, B, X, T, ⟨l1, l2, l3⟩, ⟨n1, n2, n3⟩, dN, x0, x1, ⟨A', s₀, G⟩, tn, cd, hnt⟩ := H
  obtain ⟨S, hS⟩ : ∃ S, S = nrScope := ⟨_, rfl⟩
  obtain ⟨st, hst⟩ : ∃ S, S = nrIter := ⟨_, rfl⟩
  unfold nrEnv
  rw [← hS, ← hst]
  conv at hS => rhs; whnf
  conv at hst => rhs; whnf
  subst hS hst
  k_steps
  rename Fr _ _ _ _ => F9
  rename News _ _ _ _ => N9
  refine hQ _ _ _ _ _ _ _ _ _ _ _ _ _ _ _ _ _ _ _ _ ⟨F9, fun p hp => N9 p (mem_swap (a := [_, _, _, _, _]) (b := [_, _, _, _, _, _, _]) (c := nt) hp), B, X, T, ⟨l1, l2, l3⟩, ⟨n1, n2, n3⟩, dN, x0, x1, ⟨A', s₀, G⟩, tn, cd, fun p hp => ?_⟩
  rcases List.mem_cons.mp hp with rfl | hp
  · dsimp only; omega
  · rcases List.mem_cons.mp hp with rfl | hp
    · dsimp only; omega
    · rcases List.mem_cons.mp hp with rfl | hp
      · dsimp only; omega
      · rcases List.mem_cons.mp hp with rfl | hp
        · dsimp only; omega
        · rcases List.mem_cons.mp hp with rfl | hp
          · dsimp only; omega
          · exact hnt p hp
/-- the loop of _law_number_right -/
theorem nrFor (w : World) {mean : ExcName → Option Value} {mg mb : Str → Option Value} {gd : Option (List Code)} {base g0 g : Heap} {l : List Env} {s : Shared} {L b c : Addr} {m : Str → Option Value} {Q : Flow → Shared → Prop} {x : Int} {tx tl tb tr ta tk : Tok} {oN oS oA oC : Obj} {nt nt0 : List (Addr × Obj)} {bb ba : Array UInt8} {k0 r : Int} {nb nc : Nat} {vs : List Value} {ns : List Int} {ka kb : List Int} {ps : Array Value} {cs cv : Option Value}
  (H : NrAt w mean mg mb gd base g0 g l L b c x tx oN oS oA oC (boxO c k0 r tk tr nb) (listOf vs.toArray nc) (tabObj ps) nt (nrM b bb tb x tl m) s.heap)
  (dS : oS.data = .cell cs) (dC : oC.data = .cell cv) (I : TabI nrQ ps nt0) (hsub : ∀ q ∈ nt0, q ∈ nt)
  (dA : oA.data = .cell (some (.bytes ba ta))) (hba : KBw.bInts ba = ka) (hbb : KBw.bInts bb = kb) (hla : ka.length ≤ 2) (hlb : kb.length ≤ 2)
  (hi : IntsAre vs ns) (h0 : ∀ x ∈ ns, 0 ≤ x) (hlen : ns.length ≤ 24) (hk0 : 0 ≤ k0) (hk1 : k0 + 4 < 2 ^ 30) (r0 : 0 ≤ r) (r1 : r < 2 ^ 40)
  (hQ : ∀ g' oS' oC' k tk2 ps' ce m' h' tk', NrAt w mean mg mb gd base g0 g' l L b c x tx oN oS' oA oC' (boxO c k r tk2 tr nb) (listOf vs.toArray nc) (tabObj ps') (ce ++ nt) (nrM b bb tb x tl m') h' →
    TabI nrQ ps' (ce ++ nt0) → (∀ p ∈ ce, (∀ q ∈ nt, @LT.lt Nat _ q.1 p.1) ∧ @LT.lt Nat _ (L + 1 + 1 + 1 + 1) p.1) → k0 ≤ k → k ≤ k0 + 4 → Q .next { s with heap := h', toks := tk' })
  {t : Sem Flow} (ht : t = exec (stAt nrBody 3) (nrEnv L)) : wpC (model PySem.Challenge.rw_no0060_01.row.prog w) ((zA 353 175 l gd).deeper (nrEnv L)) t Q NoE s := by
  subst ht
  have e : stAt nrBody 3 = .For nrTgt nrIter nrLoop [] (forPos (stAt nrBody 3)) := by with_unfolding_all rfl
  rw [e]
  refine @For_C _ _ _ _ _ _ _ _ _ _ _ ?_ (by intro _; with_unfolding_all rfl)
  obtain ⟨ti, hti⟩ : ∃ t, t = eval nrIter (nrEnv L) := ⟨_, rfl⟩
  rw [← hti]
  refine nrIterE w H (ht := hti) fun ao a0 a1 a2 a3 t1 t2 t3 t4 t5 t6 t7 t8 n n1 n2 n3 n4 h' tk' H2 => ?_
  have zt := (H2.N _ (.tail _ (.tail _ (.tail _ (.tail _ (.tail _ (.tail _ (.tail _ (.head _)))))))))
  refine wpAny_pyIter_tuple ⟨_, zt.1, rfl, _, rfl⟩ ?_
  have hnew : ∀ p ∈ ((ao, ({ cls := .type "tuple", data := .seq #[.ref a0, .ref a1, .ref a2, .ref a3] n } : Obj)) :: (a3, tup2 8 3 t1 t2 n1) :: (a2, tup2 4 2 t3 t4 n2) :: (a1, tup2 2 1 t5 t6 n3) :: (a0, tup2 1 0 t7 t8 n4) :: nt), @LT.lt Nat _ p.1 h'.objs.size := fun p hp =>
    Heap.lt_size (H2.N p (.tail _ (.tail _ (.tail _ (.tail _ (.tail _ (.tail _ (.tail _ hp)))))))).1
  have hL4 : @LT.lt Nat _ (L + 1 + 1 + 1 + 1) h'.objs.size := Heap.lt_size (H2.N _ (.head _)).1
  obtain ⟨q1, q2, q3⟩ := H2.lt
  have hpush : ∀ b o, h'.get? b = some o → (h'.push { cls := .type "tuple_iterator", data := .fields #[.ref ao, .int 0 0] }).get? b = some o := fun b o e => Heap.get?_push_of_some _ e
  have H3 : NrAt w mean mg mb gd base g0 g l L b c x tx oN oS oA oC (boxO c k0 r tk tr nb) (listOf vs.toArray nc) (tabObj ps) ((h'.objs.size, ({ cls := .type "tuple_iterator", data := .fields #[.ref ao, .int 0 0] } : Obj)) :: ((ao, ({ cls := .type "tuple", data := .seq #[.ref a0, .ref a1, .ref a2, .ref a3] n } : Obj)) :: (a3, tup2 8 3 t1 t2 n1) :: (a2, tup2 4 2 t3 t4 n2) :: (a1, tup2 2 1 t5 t6 n3) :: (a0, tup2 1 0 t7 t8 n4) :: nt)) (nrM b bb tb x tl m) (h'.push { cls := .type "tuple_iterator", data := .fields #[.ref ao, .int 0 0] }) := by
    have F3 := H2.F.keeps hpush
    have N3 := News.more F3 (H2.N.grown hpush) (Heap.get?_push_size _ rfl) (fun es n q => by cases q) (next_is_new H2.F)
    refine ⟨F3, fun p hp => N3 p (mem_swap (a := [_]) (b := [_, _, _, _, _, _, _]) hp), H2.B, H2.X, H2.T, H2.lt, H2.ne, H2.dN, H2.x0, H2.x1, H2.G, H2.tn, H2.cd, fun p hp => ?_⟩
    rcases List.mem_cons.mp hp with rfl | hp
    · dsimp only; omega
    · exact H2.nt p hp
  obtain ⟨cc, hcc⟩ : ∃ c, c = Code.forLoop nrTgt (.ref h'.objs.size) nrLoop [] (nrEnv L) := ⟨_, rfl⟩
  rw [← hcc]
  refine nrLoopC w (s := s) (n := n) (ao := ao) (nt1 := (ao, ({ cls := .type "tuple", data := .seq #[.ref a0, .ref a1, .ref a2, .ref a3] n } : Obj)) :: (a3, tup2 8 3 t1 t2 n1) :: (a2, tup2 4 2 t3 t4 n2) :: (a1, tup2 2 1 t5 t6 n3) :: (a0, tup2 1 0 t7 t8 n4) :: nt) (nt00 := nt0) (its := #[.ref a0, .ref a1, .ref a2, .ref a3]) (tl := tl) (tb := tb) (tr := tr) (bb := bb) (x := x) (tx := tx) (r := r) (nb := nb) (nc := nc) (b := b) (g0 := g0) (mean := mean) (mg := mg) (mb := mb) (base := base) (k0 := k0)
    (.head _) rfl ?_ (fun p hp => Nat.ne_of_lt (hnew p hp)) hL4 (fun p hp => .tail _ (.tail _ (.tail _ (.tail _ (.tail _ (hsub p hp)))))) dA hba hbb hla hlb hi h0 hlen hk0 hk1 r0 r1 ?_ hcc 4 0 _ tk' rfl
    ⟨g, oS, oC, cs, cv, k0, tk, ps, [], m, _, H3, dS, dC, ⟨_, Heap.get?_push_size _ rfl, rfl, rfl⟩, I, (fun p hp => nomatch hp), Int.le_refl _, by omega⟩
  · intro i hi
    have hc : i = 0 ∨ i = 1 ∨ i = 2 ∨ i = 3 := by omega
    rcases hc with rfl | rfl | rfl | rfl
    · exact ⟨_, _, _, _, _, _, rfl, .tail _ (.tail _ (.tail _ (.tail _ (.head _)))), .inl rfl, rfl⟩
    · exact ⟨_, _, _, _, _, _, rfl, .tail _ (.tail _ (.tail _ (.head _))), .inr (.inl rfl), rfl⟩
    · exact ⟨_, _, _, _, _, _, rfl, .tail _ (.tail _ (.head _)), .inr (.inr (.inl rfl)), rfl⟩
    · exact ⟨_, _, _, _, _, _, rfl, .tail _ (.head _), .inr (.inr (.inr rfl)), rfl⟩
  · rintro h2 tk2 ⟨g', oS', oC', k, tk3, ps', ce, m', H4, TI, hce, e0, e1⟩
    refine hQ g' oS' oC' k tk3 ps' ce m' h2 tk2 (H4.tail fun p hp => ?_) TI (fun p hp => ⟨fun q hq => ?_, Nat.lt_trans hL4 (hce p hp)⟩) e0 e1
    · rcases List.mem_append.mp hp with hp | hp
      · exact List.mem_append_left _ hp
      · exact List.mem_append_right _ (.tail _ (.tail _ (.tail _ (.tail _ (.tail _ hp)))))
    · exact Nat.lt_trans (hnew q (.tail _ (.tail _ (.tail _ (.tail _ (.tail _ hq)))))) (hce p hp)
end Mine
end

section
open PySem PySem.W PySem.Spec PySem.Calls PyProof.Rows
set_option maxRecDepth 100000
set_option maxHeartbeats 8000000
namespace Mine
theorem nrBody_is : nrBody = [stAt nrBody 0, stAt nrBody 1, stAt nrBody 2, stAt nrBody 3, stAt nrBody 4] := by with_unfolding_all rfl
theorem nrRet (w : World) {A : Around} {s : Shared} {L : Addr} {Q : Flow → Shared → Prop} {E : Value → Shared → Prop} (hQ : Q (.ret (.bool true)) s) :
  wpAny (model PySem.Challenge.rw_no0060_01.row.prog w) A (exec (stAt nrBody 4) (nrEnv L)) Q E s := by
  obtain ⟨st, hst⟩ : ∃ S, S = stAt nrBody 4 := ⟨_, rfl⟩
  rw [← hst]
  conv at hst => rhs; whnf
  subst hst
  k_steps
  exact hQ
noncomputable abbrev mBox (b : Addr) (m : Str → Option Value) : Str → Option Value := fun y => if y = Str.ofString "box" then some (.ref b) else m y
theorem mBox_eq {m : Str → Option Value} {b : Addr} (h : m (Str.ofString "box") = some (.ref b)) : m = mBox b m := by
  funext y
  by_cases e : y = Str.ofString "box"
  · subst e
    exact h
  · show _ = if _ then _ else _
    rw [if_neg e]
theorem fr_box {g h : Heap} {L b : Addr} {m : Str → Option Value} (F : Fr g L h m) (e : m (Str.ofString "box") = some (.ref b)) : Fr g L h (mBox b m) := by
  rw [← mBox_eq e]
  exact F
/-- the body of _law_number_right -/
theorem nrAll (w : World) {mean : ExcName → Option Value} {mg mb : Str → Option Value} {gd : Option (List Code)} {base g0 g : Heap} {l : List Env} {s : Shared} {L b c : Addr} {m : Str → Option Value} {Q : Flow → Shared → Prop} {x : Int} {tx tr tk : Tok} {oN oS oA oC : Obj} {nt nt0 : List (Addr × Obj)} {k0 r : Int} {nb nc : Nat} {vs : List Value} {ns : List Int} {ps : Array Value}
  (H : NrAt w mean mg mb gd base g0 g l L b c x tx oN oS oA oC (boxO c k0 r tk tr nb) (listOf vs.toArray nc) (tabObj ps) nt (mBox b m) s.heap)
  (dS : oS.data = .cell none) (dA : oA.data = .cell none) (dC : oC.data = .cell none) (I : TabI nrQ ps nt0) (hsub : ∀ q ∈ nt0, q ∈ nt)
  (hi : IntsAre vs ns) (h0 : ∀ x ∈ ns, 0 ≤ x) (hlen : ns.length ≤ 24) (hk0 : 0 ≤ k0) (hk1 : k0 + 10 < 2 ^ 30) (r0 : 0 ≤ r) (r1 : r < 2 ^ 40)
  (hQ : ∀ g' oS' oA' oC' k tk2 ps' ce m' h' tk', NrAt w mean mg mb gd base g0 g' l L b c x tx oN oS' oA' oC' (boxO c k r tk2 tr nb) (listOf vs.toArray nc) (tabObj ps') (ce ++ nt) m' h' →
    TabI nrQ ps' (ce ++ nt0) → (∀ p ∈ ce, @LT.lt Nat _ (L + 1 + 1 + 1 + 1) p.1) → k0 ≤ k → k ≤ k0 + 8 → Q (.ret (.bool true)) { s with heap := h', toks := tk' }) :
  wpC (model PySem.Challenge.rw_no0060_01.row.prog w) ((zA 353 175 l gd).deeper (nrEnv L)) (execs nrBody (nrEnv L)) Q NoE s := by
  rw [nrBody_is]
  refine execs_C (wpC_any (nrS0 w H fun tl h' tk' H => ?_))
  refine execs_C (nrS1 w H fun h' tk' H => ?_)
  refine execs_C (nrS2 w H dA hi h0 hlen hk0 (by omega) r0 r1 fun h' tk' tk2 oA' ba ta bb tb dA' hla hlb H => ?_)
  refine execs_C ?_
  obtain ⟨t3, ht3⟩ : ∃ t, t = exec (stAt nrBody 3) (nrEnv L) := ⟨_, rfl⟩
  rw [← ht3]
  refine nrFor w H dS dC I hsub dA' rfl rfl hla hlb hi h0 hlen (by omega) (by omega) r0 r1 (fun g' oS' oC' k tk3 ps' ce m' h' tk' H I' hce e0 e1 => ?_) ht3
  refine execs_C (wpC_any (nrRet w ?_))
  exact hQ g' oS' oA' oC' k tk3 ps' ce _ _ _ H I' (fun p hp => (hce p hp).2) (by omega) (by omega)
theorem nr_C (w : World) {mean : ExcName → Option Value} {mg mb : Str → Option Value} {A : Around} {base : Heap} {l : List Env} {s : Shared} {R : Result → Shared → Prop} {b c : Addr} {k r x : Int} {tk tr tx : Tok} {nb nc : Nat} {vs : List Value} {ns : List Int} {ps : Array Value} {nt0 : List (Addr × Obj)}
  (G : Gr w mean mg mb 353 175 A base l s) (cd : CodeHd base 176 174)
  (hh : ∀ p ∈ ((b, boxO c k r tk tr nb) :: (c, listOf vs.toArray nc) :: (174, tabObj ps) :: nt0), s.heap.get? p.1 = some p.2 ∧ base.get? p.1 = none ∧ p.1 ∉ l.filterMap (·.frame))
  (hd0 : ∀ p ∈ nt0, @Ne Nat p.1 b ∧ @Ne Nat p.1 174) (I : TabI nrQ ps nt0)
  (hi : IntsAre vs ns) (h0 : ∀ x ∈ ns, 0 ≤ x) (hne : @Ne Nat c b ∧ @Ne Nat c 174 ∧ @Ne Nat b 174) (hlen : ns.length ≤ 24) (k0 : 0 ≤ k) (k1 : k + 10 < 2 ^ 30) (r0 : 0 ≤ r) (r1 : r < 2 ^ 40) (x0 : 0 ≤ x) (x1 : x < 4611686018427387904)
  (hR : ∀ k' tk2 ps' ce h' tk', Turns l (hideAll s.heap (((b, boxO c k r tk tr nb) :: (c, listOf vs.toArray nc) :: (174, tabObj ps) :: nt0).map (·.1))) h' →
    (∀ p ∈ ((b, boxO c k' r tk2 tr nb) :: (c, listOf vs.toArray nc) :: (174, tabObj ps') :: (ce ++ nt0)), h'.get? p.1 = some p.2) → (∀ p ∈ ce, s.heap.objs.size ≤ p.1) → TabI nrQ ps' (ce ++ nt0) → k ≤ k' → k' ≤ k + 8 →
    R (.ok (.ret (.bool true))) { s with heap := h', toks := tk' }) :
  codeC (model PySem.Challenge.rw_no0060_01.row.prog w) A (.call (.ref 177) ⟨[.ref b, .int x tx], []⟩) R s := by
  have hfill : (Mine.hd.heap_1 w.params).In s.heap → PySem.Challenge.rw_no0060_01 = PySem.Challenge.rw_no0060_01 := by k_fill; intro _; rfl
  clear hfill
  refine' enterCC (hid := (b, boxO c k r tk tr nb) :: (c, listOf vs.toArray nc) :: (174, tabObj ps) :: nt0) G (by decide) ?ho ?hcd ?hbind ?hloc ?hnd hh ?_ ?c2 ?c3 ?c4; (case ho => k_is); (case hcd => k_is); (case hbind => exact BindsTo.of_eq rfl); (case hnd => decide +kernel); (case hloc => exact rfl); (case c2 => exact rfl); (case c3 => exact rfl); (case c4 => exact rfl)
  intro L' h₁ tk' cells F N Y B X T l1
  k_cells Y
  simp only [List.cons_append, List.nil_append] at N
  have hb1 := l1 _ (.head _)
  have hb2 := l1 _ (.tail _ (.head _))
  have hb3 := l1 _ (.tail _ (.tail _ (.head _)))
  replace F := fr_box (b := b) F rfl
  refine wpC_mono (nrAll w (nt0 := nt0) (gd := A.guards) (g0 := hideAll s.heap (((b, boxO c k r tk tr nb) :: (c, listOf vs.toArray nc) :: (174, tabObj ps) :: nt0).map (·.1))) (x := x) (tx := tx) (Q := fun fl s' => R (.ok (.ret (match fl with | .ret v => v | _ => .none))) s') ⟨F, N, B, X, T, ⟨hb1, hb2, hb3⟩, hne, ?_, x0, x1, ⟨A, s, G⟩, KtsTurn.refl, cd, fun p hp => ?_⟩ ?_ ?_ ?_ I (fun _ h => h) hi h0 hlen k0 k1 r0 r1 ?_) (fun _ _ h => h) fun _ _ h => h
  · exact (by assumption : _ = Data.cell (bindC _ _ _ (Str.ofString "n"))).trans rfl
  · exact ⟨(hd0 p hp).1, (hd0 p hp).2, .inl (l1 p (.tail _ (.tail _ (.tail _ hp))))⟩
  · exact (by assumption : _ = Data.cell (bindC _ _ _ (Str.ofString "size"))).trans rfl
  · exact (by assumption : _ = Data.cell (bindC _ _ _ (Str.ofString "ahead"))).trans rfl
  · exact (by assumption : _ = Data.cell (bindC _ _ _ (Str.ofString "cut"))).trans rfl
  · intro g' oS' oA' oC' k' tk2 ps' ce m' h' tk3 H I' hce e0 e1
    refine hR k' tk2 ps' ce h' tk3 (KtsTurn.turns H.tn H.F) (fun p hp => (H.N p (.tail _ (.tail _ (.tail _ (.tail _ hp))))).1) (fun p hp => ?_) I' e0 e1
    have h1 := hce p hp
    have h2 := F.above
    rw [hideAll_size] at h2
    exact Nat.le_of_lt (Nat.lt_of_le_of_lt h2 (Nat.lt_of_le_of_lt (by show L' ≤ L' + 1 + 1 + 1 + 1; exact Nat.le_add_right L' 4) h1))
end Mine
end

section
open PySem PySem.W PySem.Spec PySem.Calls PyProof.Rows
set_option maxRecDepth 100000
set_option maxHeartbeats 8000000
namespace Mine
noncomputable def LawC : Prop := ∀ (w : World) {mean : ExcName → Option Value} {mg mb : Str → Option Value} {A : Around} {base : Heap} {s : Shared} {R : Result → Shared → Prop} {l : Addr} {vs : List Value} {ns : List Int} (_ : Gr w mean mg mb 352 172 A base [] s)
  (_ : base.IsList l vs.toArray) (_ : IntsAre vs ns) (_ : ns.length ≤ 63)
  (_ : s.heap.get? 174 = some (tabObj #[]) ∧ base.get? 174 = none) (_ : s.heap.get? 179 = some (tabObj #[]) ∧ base.get? 179 = none) (_ : CodeHd base 176 174) (_ : CodeHd base 183 179)
  (_ : ∀ h' tk ps ps2, (∀ b o, base.get? b = some o → h'.get? b = some o) → h'.get? 174 = some (tabObj ps) → h'.get? 179 = some (tabObj ps2) → R (.ok (.ret (.bool true))) { s with heap := h', toks := tk }),
 Mine.codeC (model PySem.Challenge.rw_no0060_01.row.prog w) A (.call (.ref 184) ⟨[.ref l], []⟩) R s
noncomputable abbrev lawTabs : List (Addr × Addr) := [(176, 174), (183, 179)]
theorem good_true {cl : Str → Option Addr} {mean : ExcName → Option Value} {args : List WData} {s₁ : Shared} {h' : Heap} {tk : Nat} {ps ps2 : Array Value} (hT : TabsAt lawTabs s₁.heap) (hg : s₁.gens = #[])
  (keep : ∀ b o, (ghostOf s₁.heap lawTabs).get? b = some o → h'.get? b = some o) (e1 : h'.get? 174 = some (tabObj ps)) (e2 : h'.get? 179 = some (tabObj ps2)) :
  GoodWG PySem.Challenge.rw_no0060_01.row.toRowW.claim cl mean args s₁ (.ok (.ret (.bool true))) { s₁ with heap := h', toks := tk } := by
  refine ⟨.inl ⟨_, .bool true, [], rfl, raisesW_false ?_, ReadsW.bool _, postW_of (X := true) (by wrow_shape) (by wtm_val) (by w_fin), fun _ => ⟨List.nodup_nil, fun _ h => nomatch h⟩⟩, ⟨fun b o e => ?_, fun b o e => ?_⟩, rfl, .of_eq hg⟩
  · exact allW_false_nil
  · by_cases hb : b ∈ lawTabs.map (·.2)
    · obtain ⟨q, hq, rfl⟩ := List.mem_map.mp hb
      have e3 := (hT q hq).2
      rw [e] at e3
      have e4 := Option.some.inj e3
      subst e4
      have e5 := ((hT q hq).1.tab (hT q hq).2).isCodeTable
      rcases List.mem_cons.mp hq with rfl | hq
      · exact .inr (.inl ⟨e5, rfl, #[], ps, rfl, by rw [Array.empty_append]; exact e1⟩)
      · have e6 := List.mem_singleton.mp hq
        subst e6
        exact .inr (.inl ⟨e5, rfl, #[], ps2, rfl, by rw [Array.empty_append]; exact e2⟩)
    · exact .inl (keep b o (ghost_ne e hb))
  · by_cases hb : b ∈ lawTabs.map (·.2)
    · obtain ⟨q, hq, rfl⟩ := List.mem_map.mp hb
      rcases List.mem_cons.mp hq with rfl | hq
      · exact ⟨_, e1⟩
      · rw [List.mem_singleton.mp hq]
        exact ⟨_, e2⟩
    · exact ⟨o, keep b o (ghost_ne e hb)⟩
theorem K2_K {P : Params} {h : Heap} (X : (Mine.K2 P).In h) : (Mine.hd.heap_1 P).In h := fun a o e => by
  refine X a o ?_
  unfold Mine.K2
  rw [List.lookup_cons]
  cases q : a == 0 with
  | true =>
    have ha : a = 0 := eq_of_beq q
    subst ha
    have z : (Mine.hd.heap_1 P).lookup 0 = none := by kernel_rfl
    rw [z] at e
    cases e
  | false => exact e
theorem K2_0 {P : Params} {h : Heap} (X : (Mine.K2 P).In h) : h.get? 0 = some (bObj P) := X 0 _ rfl
theorem walk_law (hlaw : LawC) (d : DefRec) (hdn : d.name = Str.ofString "law") (kwd : List (Str × PySem.Expr)) : WalkC Mine.hd.view_1 [] (XL Mine.hd.view_1 []) (kmHook Mine.K2 [0, 2, 3, 15, 22, 24, 25, 27, 28, 29, 30, 31, 32, 35, 42, 44, 45, 47, 48, 49, 50, 51, 52, 55, 56, 58, 59, 61, 62, 63, 65, 66, 68, 69, 70, 72, 73, 75, 76, 77, 79, 80, 82, 83, 84, 86, 87, 89, 90, 98, 100, 101, 103, 104, 105, 107, 108, 110, 111, 112, 114, 115, 117, 118, 119, 121, 122, 124, 125, 126, 128, 129, 131, 132, 133, 135, 136, 138, 139, 140, 141, 142, 143, 144, 147, 150, 151, 152, 154, 155, 157, 158, 159, 161, 162, 164, 165, 166, 168, 169, 171, 172, 173, 176, 177, 178, 180, 181, 183, 184] (fun _ => by kernel_rfl) [174, 179]).says PySem.Challenge.rw_no0060_01.row.toRowW d kwd := by
  intro w s₀ s₁ mg mb G Y fa o pm cd doc dV kV ho hd hcd hD hmg hg args vals as hpre hlay hrd hwl hlo
  have KX := km_in_of Y
  km_tabs Y
  have X := (Ground.X G).1
  have V := (Ground.X G).2
  refine Ground.open G ?_
  intro T B D TE TW
  have K39 := K2_K KX
  have hfa : mg (Str.ofString "law") = some (.ref 184) := mg_of K39 T.g (show nsIn (Mine.hd.heap_1 w.params) mainGlobals (Str.ofString "law") = some (some (.ref 184)) by kernel_rfl)
  rw [hdn, hfa] at hmg
  cases hmg
  have hT9 : TabsAt lawTabs s₁.heap := List.forall_mem_cons.mpr ⟨⟨codeHd_of_K (c := 176) (P := 174) K39 (by kernel_rfl), hT8 174 (.head _)⟩, List.forall_mem_cons.mpr ⟨⟨codeHd_of_K (c := 183) (P := 179) K39 (by kernel_rfl), hT8 179 (.tail _ (.head _))⟩, fun _ h => nomatch h⟩⟩
  wrow_args hpre hlay hrd hwl hlo
  rename Heap.IsList _ _ _ => hL
  rename IntsAre _ _ => hI
  rename ¬ _ < _ => h63
  have hb0 : (ghostOf s₁.heap lawTabs).get? 0 = some (bObj w.params) := ghost_get hT9 (K2_0 KX) (fun q => by cases q)
  have hcod := ghost_code hT9
  refine wpC_call (hlaw w (base := ghostOf s₁.heap lawTabs) (mean := ExcName.means s₀.heap) (mg := mg) (mb := mb) ⟨⟨rfl, fun b o e => of_hideAll _ e, trivial⟩, ghost_K hT9 K39 (by kernel_rfl), ghost_top hT9 T, hb0, rfl, by decide, by decide⟩ (ghost_list hT9 hL) hI (by omega) ⟨hT8 174 (.head _), hideAll_none _ (.head _)⟩ ⟨hT8 179 (.tail _ (.head _)), hideAll_none _ (.tail _ (.head _))⟩ hcod.1 hcod.2.1 fun h' tk ps ps2 hk e1 e2 => ?_)
  exact good_true hT9 hg hk e1 e2
end Mine
end

section
open PySem PySem.W PySem.Spec PySem.Calls PyProof.Rows
set_option maxRecDepth 100000
set_option maxHeartbeats 8000000
namespace Mine
theorem box_c (w : World) {mean : ExcName → Option Value} {mg mb : Str → Option Value} {A : Around} {base : Heap} {l : List Env} {s : Shared} {R : Result → Shared → Prop} {a : Addr} {vs : List Value} {ns : List Int} (G : Gr w mean mg mb 358 190 A base l s)
  (hl : s.heap.IsList a vs.toArray) (hi : IntsAre vs ns) (hlen : ns.length ≤ 63)
  (hR : ∀ b c r t1 t2 nb nc (cs : List Value) (ms : List Int) h' tk, IntsAre cs ms → ms.length ≤ 24 → (∀ x ∈ ms, 0 ≤ x) → 0 ≤ r → r < 89 → (∀ b o, s.heap.get? b = some o → h'.get? b = some o) → s.heap.objs.size ≤ h'.objs.size → s.heap.get? b = none → s.heap.get? c = none → @Ne Nat c b →
    h'.get? b = some (listOf #[.ref c, .int 0 t1, .int r t2] nb) → h'.get? c = some (listOf cs.toArray nc) → R (.ok (.ret (.ref b))) { s with heap := h', toks := tk }) :
  codeAny (model PySem.Challenge.rw_no0060_01.row.prog w) A (.call (.ref 151) ⟨[.ref a], []⟩) R s := by
  have hfill : (Mine.hd.heap_1 w.params).In s.heap → PySem.Challenge.rw_no0060_01 = PySem.Challenge.rw_no0060_01 := by k_fill; intro _; rfl
  clear hfill
  refine' enterP G (by decide) ?ho ?hcd ?hbind ?hloc ?_ ?c2 ?c3 ?c4 ?c5; (case ho => k_is); (case hcd => k_is); (case hbind => exact BindsTo.of_eq rfl); (case c5 => decide); (case hloc => exact locs rfl); (case c2 => exact rfl); (case c3 => exact rfl); (case c4 => exact rfl); k_whole; intro L' h₁ F N B X T; (try dsimp only); (try k_lift B); (try k_fold)
  k_steps
  rename Fr _ _ _ _ => F9
  rename News _ _ _ _ => N9
  have n1 := (N9 _ (.head _))
  have n2 := (N9 _ (.tail _ (.head _)))
  rename IntsAre _ (List.map _ _) => hI8
  refine hR _ _ _ _ _ _ _ _ _ _ _ hI8 ?_ ?_ ?_ ?_ F9.keep (Nat.le_of_lt (Nat.lt_of_le_of_lt F9.above F9.ns.lt)) n1.2.2 n2.2.2 ?_ n1.1 n2.1
  · rw [List.length_map, List.length_take]
    omega
  · intro x hx
    obtain ⟨y, _, rfl⟩ := List.mem_map.mp hx
    split <;> omega
  · exact Int.fmod_nonneg_of_pos _ (by decide)
  · exact Int.fmod_lt_of_pos _ (by decide)
  · exact fun q => by omega
end Mine
end

section
open PySem PySem.W PySem.Spec PySem.Calls PyProof.Rows
set_option maxRecDepth 100000
set_option maxHeartbeats 8000000
namespace Mine
noncomputable def lawSt : Stmt := stAt PySem.Challenge.rw_no0060_01.row.prog.main.body 19
noncomputable def lawBody : List Stmt := fbody lawSt
noncomputable def lawScope : Scope := fscope lawSt
noncomputable abbrev lawEnv (L : Addr) : Env := envOfC (Str.ofString "law") lawScope L 184 (.ref 183)
noncomputable abbrev NeN (a b : Nat) : Prop := a ≠ b
/-- the walk stands in law -/
structure LwAt (w : World) (mean : ExcName → Option Value) (mg mb : Str → Option Value) (gd : Option (List Code)) (base g : Heap) (L b c : Addr) (oD oN oS ob oc o1 o2 : Obj) (nt : List (Addr × Obj)) (m : Str → Option Value) (h : Heap) : Prop where
  F : Fr g L h m
  N : News g L h ((L + 1 + 1 + 1, oS) :: (L + 1 + 1, oN) :: (L + 1, oD) :: (b, ob) :: (c, oc) :: (174, o1) :: (179, o2) :: nt)
  B : Below (zA 352 172 [] gd) base [] g
  X : (Mine.hd.heap_1 w.params).In g
  T : Top topProg LL mean mg mb g
  lt : @LT.lt Nat _ 174 L ∧ @LT.lt Nat _ 179 L
  ne : NeN c b ∧ NeN b 174 ∧ NeN b 179 ∧ NeN b (L + 1) ∧ NeN b (L + 1 + 1) ∧ NeN b (L + 1 + 1 + 1) ∧ NeN c 174 ∧ NeN c 179 ∧ NeN c (L + 1) ∧ NeN c (L + 1 + 1) ∧ NeN c (L + 1 + 1 + 1)
  G : ∃ A s₀, Gr w mean mg mb 352 172 A base [] s₀
  cd1 : CodeHd base 176 174
  cd2 : CodeHd base 183 179
  nt : ∀ p ∈ nt, NeN p.1 b ∧ NeN p.1 c ∧ NeN p.1 174 ∧ NeN p.1 179 ∧ NeN p.1 (L + 1) ∧ NeN p.1 (L + 1 + 1) ∧ NeN p.1 (L + 1 + 1 + 1)
theorem lawBody_is : lawBody = [stAt lawBody 0, stAt lawBody 1, stAt lawBody 2, stAt lawBody 3, stAt lawBody 4, stAt lawBody 5, stAt lawBody 6, stAt lawBody 7, stAt lawBody 8, stAt lawBody 9, stAt lawBody 10, stAt lawBody 11, stAt lawBody 12] := by with_unfolding_all rfl
theorem lwS0 (w : World) {mean : ExcName → Option Value} {mg mb : Str → Option Value} {gd : Option (List Code)} {base g : Heap} {s s₀ : Shared} {A : Around} {L : Addr} {m : Str → Option Value} {Q : Flow → Shared → Prop} {E : Value → Shared → Prop} {oD oN oS o1 o2 : Obj} {a : Addr} {vs : List Value} {ns : List Int}
  (F : Fr g L s.heap (fun y => if y = Str.ofString "script" then some (.ref a) else m y)) (N : News g L s.heap [(L + 1 + 1 + 1, oS), (L + 1 + 1, oN), (L + 1, oD), (174, o1), (179, o2)]) (B : Below (zA 352 172 [] gd) base [] g) (X : (Mine.hd.heap_1 w.params).In g) (T : Top topProg LL mean mg mb g) (lt : @LT.lt Nat _ 174 L ∧ @LT.lt Nat _ 179 L)
  (G : Gr w mean mg mb 352 172 A base [] s₀) (cd1 : CodeHd base 176 174) (cd2 : CodeHd base 183 179)
  (hl : g.IsList a vs.toArray) (hi : IntsAre vs ns) (hlen : ns.length ≤ 63)
  (hQ : ∀ b c r t1 t2 nb nc (cs : List Value) (ms : List Int) (m' : Str → Option Value) h' tk, IntsAre cs ms → ms.length ≤ 24 → (∀ x ∈ ms, 0 ≤ x) → 0 ≤ r → r < 89 → LwAt w mean mg mb gd base g L b c oD oN oS (boxO c 0 r t1 t2 nb) (listOf cs.toArray nc) o1 o2 [] (fun y => if y = Str.ofString "box" then some (.ref b) else m' y) h' → Q .next { s with heap := h', toks := tk }) :
  wpAny (model PySem.Challenge.rw_no0060_01.row.prog w) ((zA 352 172 [] gd).deeper (lawEnv L)) (exec (stAt lawBody 0) (lawEnv L)) Q E s := by
  have hfill : (Mine.hd.heap_1 w.params).In g → PySem.Challenge.rw_no0060_01 = PySem.Challenge.rw_no0060_01 := by k_fill; intro _; rfl
  clear hfill
  obtain ⟨l1, l2⟩ := lt
  have hls : ∀ h' : Heap, (∀ b o, g.get? b = some o → h'.get? b = some o) → h'.IsList a vs.toArray := fun h' k => stays_list k hl
  obtain ⟨S, hS⟩ : ∃ S, S = lawScope := ⟨_, rfl⟩
  obtain ⟨st, hst⟩ : ∃ S, S = stAt lawBody 0 := ⟨_, rfl⟩
  unfold lawEnv
  rw [← hS, ← hst]
  conv at hS => rhs; whnf
  conv at hst => rhs; whnf
  subst hS hst
  (repeat' (first | (k_unfold; (try dsimp only)) | (k_end; wrow_close) | ((with_reducible show wpAny _ _ (call (Value.ref 151) _) _ _ _); first | (with_reducible ((rename Fr _ _ _ _ => F3); (rename News _ _ _ _ => N3); (refine wpAny_call (box_c w (Gr.pushX G B F3 rfl rfl (by decide) (by decide)) (hls _ F3.keep) hi hlen fun b c r t1 t2 nb nc cs ms h' tk hcs hm24 hm0 r0 r1 hk hz hb hc hcb hb2 hc2 => ?_)); (have F4 := F3.keeps hk); (have lb := allNe_new hb N3); (have lc := allNe_new hc N3); (simp only [AllNe, and_true] at lb lc); (have N4 := News.more F4 (News.more F4 (N3.grown hk) hc2 (fun es n q => by cases q) (kts_none F3.keep hc)) hb2 (fun es n q => by cases q) (kts_none F3.keep hb)); clear F3 N3; (try dsimp only))) | ((rename Fr _ _ _ _ => F3); (rename News _ _ _ _ => N3); (refine wpAny_call (box_c w (Gr.pushX G B F3 rfl rfl (by decide) (by decide)) (hls _ F3.keep) hi hlen fun b c r t1 t2 nb nc cs ms h' tk hcs hm24 hm0 r0 r1 hk hz hb hc hcb hb2 hc2 => ?_)); (have F4 := F3.keeps hk); (have lb := allNe_new hb N3); (have lc := allNe_new hc N3); (simp only [AllNe, and_true] at lb lc); (have N4 := News.more F4 (News.more F4 (N3.grown hk) hc2 (fun es n q => by cases q) (kts_none F3.keep hc)) hb2 (fun es n q => by cases q) (kts_none F3.keep hb)); clear F3 N3; (try dsimp only))) | walk1 | (dsimp only; walk1) | (leave1; (try dsimp only)) | fail "no step"))
  rename Fr _ _ _ _ => F9
  rename News _ _ _ _ => N9
  refine hQ b c r t1 t2 nb nc cs ms _ _ _ hcs hm24 hm0 r0 r1 ⟨F9, fun p hp => N9 p (mem_swap (a := [_, _]) (b := [_, _, _]) hp), B, X, T, ⟨l1, l2⟩, ?_, ⟨_, _, G⟩, cd1, cd2, fun p hp => nomatch hp⟩
  exact ⟨hcb, lb.2.2.2.1.symm, lb.2.2.2.2.symm, lb.2.2.1.symm, lb.2.1.symm, lb.1.symm, lc.2.2.2.1.symm, lc.2.2.2.2.symm, lc.2.2.1.symm, lc.2.1.symm, lc.1.symm⟩
end Mine
end

section
open PySem PySem.W PySem.Spec PySem.Calls PyProof.Rows
set_option maxRecDepth 100000
set_option maxHeartbeats 8000000
namespace Mine
/-- a list of ints that stand for numbers of 62 bits -/
noncomputable def Edges (its : List Value) : Prop := its.length = 8 ∧ ∀ k < 8, ∃ v t, its[k]? = some (.int v t) ∧ 0 ≤ v ∧ v < 4611686018427387904
theorem edges_of {a0 a1 a2 a3 a4 a5 a6 a7 : Int} {t0 t1 t2 t3 t4 t5 t6 t7 : Tok} (h0 : 0 ≤ a0 ∧ a0 < 4611686018427387904) (h1 : 0 ≤ a1 ∧ a1 < 4611686018427387904) (h2 : 0 ≤ a2 ∧ a2 < 4611686018427387904) (h3 : 0 ≤ a3 ∧ a3 < 4611686018427387904)
    (h4 : 0 ≤ a4 ∧ a4 < 4611686018427387904) (h5 : 0 ≤ a5 ∧ a5 < 4611686018427387904) (h6 : 0 ≤ a6 ∧ a6 < 4611686018427387904) (h7 : 0 ≤ a7 ∧ a7 < 4611686018427387904) : Edges [.int a0 t0, .int a1 t1, .int a2 t2, .int a3 t3, .int a4 t4, .int a5 t5, .int a6 t6, .int a7 t7] := by
  refine ⟨rfl, fun k hk => ?_⟩
  have hc : k = 0 ∨ k = 1 ∨ k = 2 ∨ k = 3 ∨ k = 4 ∨ k = 5 ∨ k = 6 ∨ k = 7 := by omega
  rcases hc with rfl | rfl | rfl | rfl | rfl | rfl | rfl | rfl
  · exact ⟨_, _, rfl, h0⟩
  · exact ⟨_, _, rfl, h1⟩
  · exact ⟨_, _, rfl, h2⟩
  · exact ⟨_, _, rfl, h3⟩
  · exact ⟨_, _, rfl, h4⟩
  · exact ⟨_, _, rfl, h5⟩
  · exact ⟨_, _, rfl, h6⟩
  · exact ⟨_, _, rfl, h7⟩
theorem lwS1 (w : World) {mean : ExcName → Option Value} {mg mb : Str → Option Value} {gd : Option (List Code)} {base g : Heap} {s : Shared} {L b c : Addr} {m : Str → Option Value} {Q : Flow → Shared → Prop} {E : Value → Shared → Prop} {oD oN oS ob oc o1 o2 : Obj} {nt : List (Addr × Obj)}
  (H : LwAt w mean mg mb gd base g L b c oD oN oS ob oc o1 o2 nt m s.heap) {t : Sem Flow} (ht : t = exec (stAt lawBody 1) (lawEnv L))
  (hQ : ∀ e its n h' tk, Edges its → LwAt w mean mg mb gd base g L b c oD oN oS ob oc o1 o2 ((e, listOf its.toArray n) :: nt) (fun y => if y = Str.ofString "edges" then some (.ref e) else m y) h' → Q .next { s with heap := h', toks := tk }) :
  wpAny (model PySem.Challenge.rw_no0060_01.row.prog w) ((zA 352 172 [] gd).deeper (lawEnv L)) t Q E s := by
  subst ht
  have hfill : (Mine.hd.heap_1 w.params).In g → PySem.Challenge.rw_no0060_01 = PySem.Challenge.rw_no0060_01 := by k_fill; intro _; rfl
  clear hfill
  obtain ⟨F, N, B, X, T, ⟨l1, l2⟩, hne, ⟨A', s₀, G⟩, cd1, cd2, hnt⟩ := H
  obtain ⟨S, hS⟩ : ∃ S, S = lawScope := ⟨_, rfl⟩
  obtain ⟨st, hst⟩ : ∃ S, S = stAt lawBody 1 := ⟨_, rfl⟩
  unfold lawEnv
  rw [← hS, ← hst]
  conv at hS => rhs; whnf
  conv at hst => rhs; whnf
  subst hS hst
  (repeat' (first | (k_unfold; (try dsimp only)) | (k_end; wrow_close) | ((with_reducible show wpAny _ _ (binaryOp Operator.Pow (Value.int _ _) (Value.int _ _)) _ _ _); first | (with_reducible ((with_reducible refine pow_two (by decide) (by decide) ?_))) | ((with_reducible refine pow_two (by decide) (by decide) ?_))) | walk1 | (dsimp only; walk1) | (leave1; (try dsimp only)) | fail "no step"))
  rename Fr _ _ _ _ => F9
  rename News _ _ _ _ => N9
  refine hQ _ _ _ _ _ (edges_of (by decide) (by decide) (by decide) (by decide) (by decide) (by decide) (by decide) (by decide)) ⟨F9, fun p hp => N9 p (mem_swap (a := [_]) (b := [_, _, _, _, _, _, _]) hp), B, X, T, ⟨l1, l2⟩, hne, ⟨_, _, G⟩, cd1, cd2, fun p hp => ?_⟩
  rcases List.mem_cons.mp hp with rfl | hp
  · dsimp only [NeN]
    omega
  · exact hnt p hp
end Mine
end

section
open PySem PySem.W PySem.Spec PySem.Calls PyProof.Rows
set_option maxRecDepth 100000
set_option maxHeartbeats 8000000
namespace Mine
theorem hideAll_fr {g h : Heap} {L : Addr} {m : Str → Option Value} {hid : List Addr} (F : Fr g L h m) (hL : L ∉ hid) (hg : ∀ a ∈ hid, g.get? a = none) : Fr g L (hideAll h hid) m := by
  obtain ⟨oL, a1, a2, hoL, a3⟩ := F.ns
  refine ⟨⟨oL, a1, a2, hideAll_get _ hoL hL, a3⟩, fun b o e => hideAll_get _ (F.keep b o e) fun hb => ?_, F.above⟩
  rw [hg b hb] at e
  cases e
theorem turnedH {A₀ : Around} {base g h h' : Heap} {outer : List Env} {env : Env} {L : Addr} {m : Str → Option Value} {news : List (Addr × Obj)} {hid : List Addr} (K : Below A₀ base outer g) (F : Fr g L h m) (N : News g L h news) (hf : env.frame = some L) (hL : L ∉ hid) (hg : ∀ a ∈ hid, g.get? a = none)
    (R : Turns (env :: outer) (hideAll h hid) h') : ∃ g', KtsTurn (outer.filterMap (·.frame)) g g' ∧ Fr g' L h' m ∧ (∀ p ∈ news, p.1 ∉ hid → h'.get? p.1 = some p.2) ∧ Below A₀ base outer g' := by
  have N2 : News g L (hideAll h hid) (news.filter fun p => !hid.contains p.1) := fun p hp => by
    obtain ⟨h1, h2⟩ := List.mem_filter.mp hp
    have h3 : p.1 ∉ hid := fun q => by
      rw [List.contains_iff_mem.mpr q] at h2
      cases h2
    exact ⟨hideAll_get _ (N p h1).1 h3, (N p h1).2⟩
  obtain ⟨g', T, F', N', B'⟩ := turned K (hideAll_fr F hL hg) N2 hf R
  refine ⟨g', T, F', fun p hp hn => (N' p (List.mem_filter.mpr ⟨hp, ?_⟩)).1, B'⟩
  cases q : hid.contains p.1 with
  | true => exact absurd (List.contains_iff_mem.mp q) hn
  | false => rfl
section
variable {w : World} {mean : ExcName → Option Value} {mg mb : Str → Option Value} {gd : Option (List Code)} {base g : Heap} {L b c : Addr} {m : Str → Option Value} {oD oN oS ob oc o1 o2 : Obj} {nt : List (Addr × Obj)} {h : Heap}
theorem LwAt.get (H : LwAt w mean mg mb gd base g L b c oD oN oS ob oc o1 o2 nt m h) {p : Addr × Obj} (hp : p ∈ nt) : h.get? p.1 = some p.2 ∧ p.1 ≠ L ∧ g.get? p.1 = none := H.N p (.tail _ (.tail _ (.tail _ (.tail _ (.tail _ (.tail _ (.tail _ hp)))))))
theorem LwAt.nr {h' : Heap} {k k' r : Int} {tk tk2 tr : Tok} {nb nc : Nat} {vs : List Value} {ps ps' : Array Value} {nt1 ce : List (Addr × Obj)} (H : LwAt w mean mg mb gd base g L b c oD oN oS (boxO c k r tk tr nb) (listOf vs.toArray nc) (tabObj ps) o2 nt m h) (hsub : ∀ q ∈ nt1, q ∈ nt)
    (R : Turns (lawEnv L :: []) (hideAll h (((b, boxO c k r tk tr nb) :: (c, listOf vs.toArray nc) :: (174, tabObj ps) :: nt1).map (·.1))) h')
    (hin : ∀ p ∈ ((b, boxO c k' r tk2 tr nb) :: (c, listOf vs.toArray nc) :: (174, tabObj ps') :: (ce ++ nt1)), h'.get? p.1 = some p.2) (hce : ∀ p ∈ ce, h.objs.size ≤ p.1) :
    ∃ g', LwAt w mean mg mb gd base g' L b c oD oN oS (boxO c k' r tk2 tr nb) (listOf vs.toArray nc) (tabObj ps') o2 (ce ++ nt) m h' := by
  obtain ⟨F, N, B, X, T, ⟨l1, l2⟩, hne, ⟨A', s₀, G⟩, cd1, cd2, hnt⟩ := id H
  have z1 := N (L + 1 + 1 + 1, oS) (.head _)
  have z2 := N (L + 1 + 1, oN) (.tail _ (.head _))
  have z3 := N (L + 1, oD) (.tail _ (.tail _ (.head _)))
  have zb := N (b, _) (.tail _ (.tail _ (.tail _ (.head _))))
  have zc := N (c, _) (.tail _ (.tail _ (.tail _ (.tail _ (.head _)))))
  have zt := N (174, _) (.tail _ (.tail _ (.tail _ (.tail _ (.tail _ (.head _))))))
  have zu := N (179, _) (.tail _ (.tail _ (.tail _ (.tail _ (.tail _ (.tail _ (.head _)))))))
  obtain ⟨e1, e2, e3, e4, e5, e6, e7, e8, e9, e10, e11⟩ := hne
  have hmem : ∀ {a : Addr}, a ∈ (((b, boxO c k r tk tr nb) :: (c, listOf vs.toArray nc) :: (174, tabObj ps) :: nt1).map (·.1)) → a = b ∨ a = c ∨ a = 174 ∨ ∃ q ∈ nt1, q.1 = a := fun ha => by
    obtain ⟨q, hq, rfl⟩ := List.mem_map.mp ha
    rcases List.mem_cons.mp hq with rfl | hq
    · exact .inl rfl
    · rcases List.mem_cons.mp hq with rfl | hq
      · exact .inr (.inl rfl)
      · rcases List.mem_cons.mp hq with rfl | hq
        · exact .inr (.inr (.inl rfl))
        · exact .inr (.inr (.inr ⟨q, hq, rfl⟩))
  obtain ⟨g', TT, F', N', B'⟩ := turnedH B F N rfl (hid := ((b, boxO c k r tk tr nb) :: (c, listOf vs.toArray nc) :: (174, tabObj ps) :: nt1).map (·.1))
    (fun q => by
      rcases hmem q with q | q | q | ⟨p, hp, q⟩
      · exact zb.2.1 q.symm
      · exact zc.2.1 q.symm
      · exact zt.2.1 q.symm
      · exact (H.get (hsub p hp)).2.1 q)
    (fun a ha => by
      rcases hmem ha with q | q | q | ⟨p, hp, q⟩
      · rw [q]; exact zb.2.2
      · rw [q]; exact zc.2.2
      · rw [q]; exact zt.2.2
      · rw [← q]; exact (H.get (hsub p hp)).2.2) R
  have off : ∀ {a : Addr}, NeN a b → NeN a c → NeN a 174 → (∀ q ∈ nt1, NeN a q.1) → a ∉ (((b, boxO c k r tk tr nb) :: (c, listOf vs.toArray nc) :: (174, tabObj ps) :: nt1).map (·.1)) := fun q1 q2 q3 q4 ha => by
    rcases hmem ha with q | q | q | ⟨p, hp, q⟩
    · exact q1 q
    · exact q2 q
    · exact q3 q
    · exact q4 p hp q.symm
  have lc : ∀ {a : Addr} {o : Obj}, h.get? a = some o → ∀ p ∈ ce, NeN p.1 a := fun e p hp => Nat.ne_of_gt (Nat.lt_of_lt_of_le (Heap.lt_size e) (hce p hp))
  refine ⟨g', F', fun p hp => ?_, B', G.K.keeps B'.stays, G.top.keeps B'.stays, ⟨l1, l2⟩, ⟨e1, e2, e3, e4, e5, e6, e7, e8, e9, e10, e11⟩, ⟨A', s₀, G⟩, cd1, cd2, fun p hp => ?_⟩
  · simp only [List.mem_cons] at hp
    rcases hp with rfl | rfl | rfl | rfl | rfl | rfl | rfl | hp
    · exact ⟨N' _ (.head _) (off (Ne.symm e6) (Ne.symm e11) (by dsimp only [NeN]; omega) fun q hq => Ne.symm (hnt q (hsub q hq)).2.2.2.2.2.2), z1.2.1, TT.none_ _ z1.2.2⟩
    · exact ⟨N' _ (.tail _ (.head _)) (off (Ne.symm e5) (Ne.symm e10) (by dsimp only [NeN]; omega) fun q hq => Ne.symm (hnt q (hsub q hq)).2.2.2.2.2.1), z2.2.1, TT.none_ _ z2.2.2⟩
    · exact ⟨N' _ (.tail _ (.tail _ (.head _))) (off (Ne.symm e4) (Ne.symm e9) (by dsimp only [NeN]; omega) fun q hq => Ne.symm (hnt q (hsub q hq)).2.2.2.2.1), z3.2.1, TT.none_ _ z3.2.2⟩
    · exact ⟨hin _ (.head _), zb.2.1, TT.none_ _ zb.2.2⟩
    · exact ⟨hin _ (.tail _ (.head _)), zc.2.1, TT.none_ _ zc.2.2⟩
    · exact ⟨hin _ (.tail _ (.tail _ (.head _))), zt.2.1, TT.none_ _ zt.2.2⟩
    · exact ⟨N' _ (.tail _ (.tail _ (.tail _ (.tail _ (.tail _ (.tail _ (.head _))))))) (off (Ne.symm e3) (Ne.symm e8) (by dsimp only [NeN]; omega) fun q hq => Ne.symm (hnt q (hsub q hq)).2.2.2.1), zu.2.1, TT.none_ _ zu.2.2⟩
    · rcases List.mem_append.mp hp with hp | hp
      · have hs := hce p hp
        have hL := F.ns.lt
        refine ⟨hin p (.tail _ (.tail _ (.tail _ (List.mem_append_left _ hp)))), Nat.ne_of_gt (Nat.lt_of_lt_of_le hL hs), TT.none_ _ ?_⟩
        cases q : g.get? p.1 with
        | none => rfl
        | some o => exact absurd (Nat.lt_of_lt_of_le (Heap.lt_size (F.keep _ _ q)) hs) (Nat.lt_irrefl _)
      · have zp := H.get hp
        refine ⟨?_, zp.2.1, TT.none_ _ zp.2.2⟩
        by_cases ha : p.1 ∈ (((b, boxO c k r tk tr nb) :: (c, listOf vs.toArray nc) :: (174, tabObj ps) :: nt1).map (·.1))
        · rcases hmem ha with q | q | q | ⟨p2, hp2, q⟩
          · exact absurd q (hnt p hp).1
          · exact absurd q (hnt p hp).2.1
          · exact absurd q (hnt p hp).2.2.1
          · have y := hin p2 (.tail _ (.tail _ (.tail _ (List.mem_append_right _ hp2))))
            have y2 := (H.get (hsub p2 hp2)).1
            rw [q, zp.1] at y2
            rw [q] at y
            rw [y, Option.some.inj y2]
        · exact N' p (.tail _ (.tail _ (.tail _ (.tail _ (.tail _ (.tail _ (.tail _ hp))))))) ha
  · rcases List.mem_append.mp hp with hp | hp
    · exact ⟨lc zb.1 p hp, lc zc.1 p hp, lc zt.1 p hp, lc zu.1 p hp, lc z3.1 p hp, lc z2.1 p hp, lc z1.1 p hp⟩
    · exact hnt p hp
end
end Mine
end

section
open PySem PySem.W PySem.Spec PySem.Calls PyProof.Rows
set_option maxRecDepth 100000
set_option maxHeartbeats 8000000
namespace Mine
noncomputable abbrev lwLoop : List Stmt := forBody (stAt lawBody 2)
noncomputable abbrev lwM (b e : Addr) (m : Str → Option Value) : Str → Option Value := fun y => if y = Str.ofString "box" then some (.ref b) else if y = Str.ofString "edges" then some (.ref e) else m y
theorem lwT0 (w : World) {mean : ExcName → Option Value} {mg mb : Str → Option Value} {gd : Option (List Code)} {base g : Heap} {s : Shared} {L b c e : Addr} {m : Str → Option Value} {Q : Flow → Shared → Prop} {E : Value → Shared → Prop} {oD oN oS o1 o2 : Obj} {nt : List (Addr × Obj)} {k r : Int} {tk tr : Tok} {nb nc ne : Nat} {vs its : List Value} {ns : List Int} {cn : Option Value}
  (H : LwAt w mean mg mb gd base g L b c oD oN oS (boxO c k r tk tr nb) (listOf vs.toArray nc) o1 o2 nt (lwM b e m) s.heap)
  (he : (e, listOf its.toArray ne) ∈ nt) (hE : Edges its) (dN : oN.data = .cell cn)
  (hi : IntsAre vs ns) (h0 : ∀ x ∈ ns, 0 ≤ x) (hlen : ns.length ≤ 24) (k0 : 0 ≤ k) (k1 : k < 2 ^ 30) (r0 : 0 ≤ r) (r1 : r < 2 ^ 40)
  (hQ : ∀ oN' v tv tk2 h' tk', 0 ≤ v → v < 4611686018427387904 → oN'.data = .cell (some (.int v tv)) → LwAt w mean mg mb gd base g L b c oD oN' oS (boxO c (k + 1) r tk2 tr nb) (listOf vs.toArray nc) o1 o2 nt (lwM b e m) h' → Q .next { s with heap := h', toks := tk' }) :
  wpAny (model PySem.Challenge.rw_no0060_01.row.prog w) ((zA 352 172 [] gd).deeper (lawEnv L)) (exec (stAt lwLoop 0) (lawEnv L)) Q E s := by
  have hfill : (Mine.hd.heap_1 w.params).In g → PySem.Challenge.rw_no0060_01 = PySem.Challenge.rw_no0060_01 := by k_fill; intro _; rfl
  clear hfill
  obtain ⟨F, N, B, X, T, ⟨l1, l2⟩, hne, ⟨A', s₀, G⟩, cd1, cd2, hnt⟩ := H
  obtain ⟨S, hS⟩ : ∃ S, S = lawScope := ⟨_, rfl⟩
  obtain ⟨st, hst⟩ : ∃ S, S = stAt lwLoop 0 := ⟨_, rfl⟩
  unfold lawEnv
  rw [← hS, ← hst]
  conv at hS => rhs; whnf
  conv at hst => rhs; whnf
  subst hS hst
  obtain ⟨n1, n2, n3, n4, n5, n6, n7, n8, n9, n10, n11⟩ := id hne
  dsimp only [NeN] at n1 n2 n3 n4 n5 n6 n7 n8 n9 n10 n11
  (repeat' (first | (k_unfold; (try dsimp only)) | (k_end; wrow_close) | ((with_reducible show wpAny _ _ (call (Value.ref 158) _) _ _ _); first | (with_reducible ((with_unfolding_all refine' take_K ?B ?F ?X ?N ?T ?hk ?hb ?hc hi h0 n1 hlen ?k0 ?k1 r0 r1 ?m0 ?m1 ?hd ?hu ?U ?_; (case hk => exact rfl); (case B => k_asm); (case F => k_asm); (case X => k_asm); (case N => k_asm); (case T => k_asm); (case hb => k_mem); (case hc => k_mem); (case k0 => omega); (case k1 => omega); (case m0 => omega); (case m1 => omega); (case hd => exact (by decide : 352 + 1 + 5 < recursionLimit)); (case hu => exact (by decide : 172 + 3 + 20 < cLine)); (case U => k_updF)); k_whole; (intro v' t' t2' h' tk' v0' v1' F' N'); (try dsimp only at N'); (try k_sweep))) | ((with_unfolding_all refine' take_K ?B ?F ?X ?N ?T ?hk ?hb ?hc hi h0 n1 hlen ?k0 ?k1 r0 r1 ?m0 ?m1 ?hd ?hu ?U ?_; (case hk => exact rfl); (case B => k_asm); (case F => k_asm); (case X => k_asm); (case N => k_asm); (case T => k_asm); (case hb => k_mem); (case hc => k_mem); (case k0 => omega); (case k1 => omega); (case m0 => omega); (case m1 => omega); (case hd => exact (by decide : 352 + 1 + 5 < recursionLimit)); (case hu => exact (by decide : 172 + 3 + 20 < cLine)); (case U => k_updF)); k_whole; (intro v' t' t2' h' tk' v0' v1' F' N'); (try dsimp only at N'); (try k_sweep))) | ((with_reducible show wpAny _ _ (subscriptTail _ _ (Value.ref e) (Value.int _ _)) _ _ _); first | (with_reducible ((rename News _ _ _ _ => N3); (obtain ⟨vv, vt, hx, vv0, vv1⟩ := hE.2 v'.toNat (by omega)); (with_unfolding_all refine my_item N3 (.tail _ (.tail _ (.tail _ (.tail _ (.tail _ (.tail _ (.tail _ he))))))) v0' (by omega) hx ?_ (by with_unfolding_all rfl)))) | ((rename News _ _ _ _ => N3); (obtain ⟨vv, vt, hx, vv0, vv1⟩ := hE.2 v'.toNat (by omega)); (with_unfolding_all refine my_item N3 (.tail _ (.tail _ (.tail _ (.tail _ (.tail _ (.tail _ (.tail _ he))))))) v0' (by omega) hx ?_ (by with_unfolding_all rfl)))) | walk1 | (dsimp only; walk1) | (leave1; (try dsimp only)) | fail "no step"))
  rename Fr _ _ _ _ => F9
  rename News _ _ _ _ => N9
  rename _ = Data.cell (some (Value.int _ _)) => dN9
  exact hQ _ _ _ _ _ _ vv0 vv1 dN9 ⟨F9, N9, B, X, T, ⟨l1, l2⟩, hne, ⟨_, _, G⟩, cd1, cd2, hnt⟩
theorem mm_in (y : Int) : 0 ≤ (if 2 ^ Int.toNat 62 - 1 < (if 0 > y then 0 else y) then 2 ^ Int.toNat 62 - 1 else if 0 > y then 0 else y) ∧ (if 2 ^ Int.toNat 62 - 1 < (if 0 > y then 0 else y) then 2 ^ Int.toNat 62 - 1 else if 0 > y then 0 else y) < 4611686018427387904 := by
  have e : (2 : Int) ^ Int.toNat 62 - 1 = 4611686018427387903 := by decide
  rw [e]
  have h0 : 0 ≤ (if 0 > y then 0 else y) := by split <;> omega
  generalize (if 0 > y then 0 else y) = z at *
  split <;> omega
theorem lwT1 (w : World) {mean : ExcName → Option Value} {mg mb : Str → Option Value} {gd : Option (List Code)} {base g : Heap} {s : Shared} {L b c e : Addr} {m : Str → Option Value} {Q : Flow → Shared → Prop} {oD oN oS o2 : Obj} {nt nt1 : List (Addr × Obj)} {k r v : Int} {tk tr tv : Tok} {nb nc : Nat} {vs : List Value} {ns : List Int} {ps : Array Value}
  (H : LwAt w mean mg mb gd base g L b c oD oN oS (boxO c k r tk tr nb) (listOf vs.toArray nc) (tabObj ps) o2 nt (lwM b e m) s.heap)
  (dN : oN.data = .cell (some (.int v tv))) (v0 : 0 ≤ v) (v1 : v < 4611686018427387904) (I : TabI nrQ ps nt1) (hsub : ∀ q ∈ nt1, q ∈ nt)
  (hi : IntsAre vs ns) (h0 : ∀ x ∈ ns, 0 ≤ x) (hlen : ns.length ≤ 24) (k0 : 0 ≤ k) (k1 : k + 20 < 2 ^ 30) (r0 : 0 ≤ r) (r1 : r < 2 ^ 40)
  (hQ : ∀ g' k' tk2 ps' ce h' tk', LwAt w mean mg mb gd base g' L b c oD oN oS (boxO c k' r tk2 tr nb) (listOf vs.toArray nc) (tabObj ps') o2 (ce ++ nt) (lwM b e m) h' → TabI nrQ ps' (ce ++ nt1) → (∀ p ∈ ce, ∀ q ∈ nt, @LT.lt Nat _ q.1 p.1) → k ≤ k' → k' ≤ k + 9 → Q .next { s with heap := h', toks := tk' }) :
  wpC (model PySem.Challenge.rw_no0060_01.row.prog w) ((zA 352 172 [] gd).deeper (lawEnv L)) (exec (stAt lwLoop 1) (lawEnv L)) Q NoE s := by
  have hfill : (Mine.hd.heap_1 w.params).In g → PySem.Challenge.rw_no0060_01 = PySem.Challenge.rw_no0060_01 := by k_fill; intro _; rfl
  clear hfill
  have hne := H.ne
  obtain ⟨F, N, B, X, T, ⟨l1, l2⟩, _, ⟨A', s₀, G⟩, cd1, cd2, hnt⟩ := id H
  obtain ⟨S, hS⟩ : ∃ S, S = lawScope := ⟨_, rfl⟩
  obtain ⟨st, hst⟩ : ∃ S, S = stAt lwLoop 1 := ⟨_, rfl⟩
  have hlaw : lawEnv L = envOfC (Str.ofString "law") lawScope L 184 (.ref 183) := rfl
  unfold lawEnv
  rw [← hS, ← hst]
  conv at hS => rhs; whnf
  conv at hst => rhs; whnf
  subst hS hst
  obtain ⟨n1, n2, n3, n4, n5, n6, n7, n8, n9, n10, n11⟩ := id hne
  dsimp only [NeN] at n1 n2 n3 n4 n5 n6 n7 n8 n9 n10 n11
  refine If_C (isTrue_notC (isTrue_callC (Call_C ?_)))
  (repeat' (first | (k_unfold; (try dsimp only)) | (k_end; wrow_close) | ((with_reducible show wpAny _ _ (binaryOp Operator.Pow (Value.int _ _) (Value.int _ _)) _ _ _); first | (with_reducible ((with_reducible refine pow_two (by decide) (by decide) ?_))) | ((with_reducible refine pow_two (by decide) (by decide) ?_))) | ((with_reducible show wpAny _ _ (call (Value.ref 158) _) _ _ _); first | (with_reducible ((with_unfolding_all refine' take_K ?B ?F ?X ?N ?T ?hk ?hb ?hc hi h0 n1 hlen ?k0 ?k1 r0 r1 ?m0 ?m1 ?hd ?hu ?U ?_; (case hk => exact rfl); (case B => k_asm); (case F => k_asm); (case X => k_asm); (case N => k_asm); (case T => k_asm); (case hb => k_mem); (case hc => k_mem); (case k0 => omega); (case k1 => omega); (case m0 => omega); (case m1 => omega); (case hd => exact (by decide : 352 + 1 + 5 < recursionLimit)); (case hu => exact (by decide : 172 + 3 + 20 < cLine)); (case U => k_updF)); k_whole; (intro v' t' t2' h' tk' v0' v1' F' N'); (try dsimp only at N'); (try k_sweep))) | ((with_unfolding_all refine' take_K ?B ?F ?X ?N ?T ?hk ?hb ?hc hi h0 n1 hlen ?k0 ?k1 r0 r1 ?m0 ?m1 ?hd ?hu ?U ?_; (case hk => exact rfl); (case B => k_asm); (case F => k_asm); (case X => k_asm); (case N => k_asm); (case T => k_asm); (case hb => k_mem); (case hc => k_mem); (case k0 => omega); (case k1 => omega); (case m0 => omega); (case m1 => omega); (case hd => exact (by decide : 352 + 1 + 5 < recursionLimit)); (case hu => exact (by decide : 172 + 3 + 20 < cLine)); (case U => k_updF)); k_whole; (intro v' t' t2' h' tk' v0' v1' F' N'); (try dsimp only at N'); (try k_sweep))) | ((with_reducible show wpAny _ _ (subscriptTail _ _ (Value.ref e) (Value.int _ _)) _ _ _); first | (with_reducible ((rename News _ _ _ _ => N3); (obtain ⟨vv, vt, hx, vv0, vv1⟩ := hE.2 v'.toNat (by omega)); (with_unfolding_all refine my_item N3 (.tail _ (.tail _ (.tail _ (.tail _ (.tail _ (.tail _ (.tail _ he))))))) v0' (by omega) hx ?_ (by with_unfolding_all rfl)))) | ((rename News _ _ _ _ => N3); (obtain ⟨vv, vt, hx, vv0, vv1⟩ := hE.2 v'.toNat (by omega)); (with_unfolding_all refine my_item N3 (.tail _ (.tail _ (.tail _ (.tail _ (.tail _ (.tail _ (.tail _ he))))))) v0' (by omega) hx ?_ (by with_unfolding_all rfl)))) | walk1 | (dsimp only; walk1) | (leave1; (try dsimp only)) | fail "no step"))
  rename Fr _ _ _ _ => F3
  rename News _ _ _ _ => N3
  refine CallC.of (X.keeps F3.keep) (by kernel_rfl) rfl (wpC_call (nr_C w (nt0 := nt1) (k := k + 1) (tk := t2') (tr := tr) (r := r) (nb := nb) (nc := nc) (vs := vs) (ps := ps) (b := b) (c := c) (Gr.pushX G B F3 rfl rfl (by decide) (by decide)) cd1 ?hh ?hd0 I hi h0 ⟨n1, n7, n2⟩ hlen (by omega) (by omega) r0 r1 ?x0 ?x1 ?hR))
  case hh =>
    intro p hp
    have hm : p ∈ ((L + 1 + 1 + 1, oS) :: (L + 1 + 1, oN) :: (L + 1, oD) :: (b, boxO c (k + 1) r t2' tr nb) :: (c, listOf vs.toArray nc) :: (174, tabObj ps) :: (179, o2) :: nt) := by
      rcases List.mem_cons.mp hp with rfl | hp
      · exact .tail _ (.tail _ (.tail _ (.head _)))
      · rcases List.mem_cons.mp hp with rfl | hp
        · exact .tail _ (.tail _ (.tail _ (.tail _ (.head _))))
        · rcases List.mem_cons.mp hp with rfl | hp
          · exact .tail _ (.tail _ (.tail _ (.tail _ (.tail _ (.head _)))))
          · exact .tail _ (.tail _ (.tail _ (.tail _ (.tail _ (.tail _ (.tail _ (hsub _ hp)))))))
    have z := N3 p hm
    refine ⟨z.1, ?_, fun q => z.2.1 (List.mem_singleton.mp q)⟩
    cases q : base.get? p.1 with
    | none => rfl
    | some o =>
      have y := B.stays _ _ q
      rw [z.2.2] at y
      cases y
  case hd0 => exact fun p hp => ⟨(hnt p (hsub p hp)).1, (hnt p (hsub p hp)).2.2.1⟩
  case x0 => exact (mm_in _).1
  case x1 => exact (mm_in _).2
  case hR =>
    intro k' tk2 ps' ce h2 tk' TT hin hce I' e0 e1
    dsimp only
    refine Exists.elim (LwAt.nr (w := w) ⟨F3, N3, B, X, T, ⟨l1, l2⟩, hne, ⟨_, _, G⟩, cd1, cd2, hnt⟩ hsub TT hin hce) fun g' H2 => ?_
    (repeat' (first | (k_unfold; (try dsimp only)) | (k_end; wrow_close) | ((with_reducible show wpAny _ _ (binaryOp Operator.Pow (Value.int _ _) (Value.int _ _)) _ _ _); first | (with_reducible ((with_reducible refine pow_two (by decide) (by decide) ?_))) | ((with_reducible refine pow_two (by decide) (by decide) ?_))) | ((with_reducible show wpAny _ _ (call (Value.ref 158) _) _ _ _); first | (with_reducible ((with_unfolding_all refine' take_K ?B ?F ?X ?N ?T ?hk ?hb ?hc hi h0 n1 hlen ?k0 ?k1 r0 r1 ?m0 ?m1 ?hd ?hu ?U ?_; (case hk => exact rfl); (case B => k_asm); (case F => k_asm); (case X => k_asm); (case N => k_asm); (case T => k_asm); (case hb => k_mem); (case hc => k_mem); (case k0 => omega); (case k1 => omega); (case m0 => omega); (case m1 => omega); (case hd => exact (by decide : 352 + 1 + 5 < recursionLimit)); (case hu => exact (by decide : 172 + 3 + 20 < cLine)); (case U => k_updF)); k_whole; (intro v' t' t2' h' tk' v0' v1' F' N'); (try dsimp only at N'); (try k_sweep))) | ((with_unfolding_all refine' take_K ?B ?F ?X ?N ?T ?hk ?hb ?hc hi h0 n1 hlen ?k0 ?k1 r0 r1 ?m0 ?m1 ?hd ?hu ?U ?_; (case hk => exact rfl); (case B => k_asm); (case F => k_asm); (case X => k_asm); (case N => k_asm); (case T => k_asm); (case hb => k_mem); (case hc => k_mem); (case k0 => omega); (case k1 => omega); (case m0 => omega); (case m1 => omega); (case hd => exact (by decide : 352 + 1 + 5 < recursionLimit)); (case hu => exact (by decide : 172 + 3 + 20 < cLine)); (case U => k_updF)); k_whole; (intro v' t' t2' h' tk' v0' v1' F' N'); (try dsimp only at N'); (try k_sweep))) | ((with_reducible show wpAny _ _ (subscriptTail _ _ (Value.ref e) (Value.int _ _)) _ _ _); first | (with_reducible ((rename News _ _ _ _ => N3); (obtain ⟨vv, vt, hx, vv0, vv1⟩ := hE.2 v'.toNat (by omega)); (with_unfolding_all refine my_item N3 (.tail _ (.tail _ (.tail _ (.tail _ (.tail _ (.tail _ (.tail _ he))))))) v0' (by omega) hx ?_ (by with_unfolding_all rfl)))) | ((rename News _ _ _ _ => N3); (obtain ⟨vv, vt, hx, vv0, vv1⟩ := hE.2 v'.toNat (by omega)); (with_unfolding_all refine my_item N3 (.tail _ (.tail _ (.tail _ (.tail _ (.tail _ (.tail _ (.tail _ he))))))) v0' (by omega) hx ?_ (by with_unfolding_all rfl)))) | walk1 | (dsimp only; walk1) | (leave1; (try dsimp only)) | fail "no step"))
    (try dsimp only)
    refine execs_nilC ?_
    refine hQ g' k' _ ps' ce _ _ H2 I' (fun p hp q hq => ?_) (by omega) (by omega)
    exact Nat.lt_of_lt_of_le (Heap.lt_size (N3 q (.tail _ (.tail _ (.tail _ (.tail _ (.tail _ (.tail _ (.tail _ hq)))))))).1) (hce p hp)
end Mine
end

section
open PySem PySem.W PySem.Spec PySem.Calls PyProof.Rows
set_option maxRecDepth 100000
set_option maxHeartbeats 8000000
namespace Mine
section
variable {w : World} {mean : ExcName → Option Value} {mg mb : Str → Option Value} {gd : Option (List Code)} {base g : Heap} {L b c it : Addr} {m : Str → Option Value} {oD oN oS ob oc o1 o2 oI oI' : Obj} {nt nt' : List (Addr × Obj)} {h h' : Heap}
theorem mem8 {α : Type} {a1 a2 a3 a4 a5 a6 a7 p : α} {l l' : List α} (hs : p ∈ l → p ∈ l') (hp : p ∈ a1 :: a2 :: a3 :: a4 :: a5 :: a6 :: a7 :: l) : p ∈ a1 :: a2 :: a3 :: a4 :: a5 :: a6 :: a7 :: l' := by
  simp only [List.mem_cons] at hp ⊢
  rcases hp with h | h | h | h | h | h | h | h
  · exact .inl h
  · exact .inr (.inl h)
  · exact .inr (.inr (.inl h))
  · exact .inr (.inr (.inr (.inl h)))
  · exact .inr (.inr (.inr (.inr (.inl h))))
  · exact .inr (.inr (.inr (.inr (.inr (.inl h)))))
  · exact .inr (.inr (.inr (.inr (.inr (.inr (.inl h))))))
  · exact .inr (.inr (.inr (.inr (.inr (.inr (.inr (hs h)))))))
theorem LwAt.tail (H : LwAt w mean mg mb gd base g L b c oD oN oS ob oc o1 o2 nt m h) (hs : ∀ p ∈ nt', p ∈ nt) : LwAt w mean mg mb gd base g L b c oD oN oS ob oc o1 o2 nt' m h :=
  ⟨H.F, fun p hp => H.N p (mem8 (hs p) hp), H.B, H.X, H.T, H.lt, H.ne, H.G, H.cd1, H.cd2, fun p hp => H.nt p (hs p hp)⟩
theorem LwAt.extBut (H : LwAt w mean mg mb gd base g L b c oD oN oS ob oc o1 o2 ((it, oI) :: nt) m h) (hs : Heap.ExtBut it h h') (hne : ∀ p ∈ nt, @Ne Nat p.1 it) : LwAt w mean mg mb gd base g L b c oD oN oS ob oc o1 o2 nt m h' := by
  have z := H.get (.head _)
  obtain ⟨l1, l2⟩ := H.lt
  have zi := H.nt (it, oI) (.head _)
  obtain ⟨i1, i2, i3, i4, i5, i6, i7⟩ := zi
  refine ⟨fr_extBut H.F hs z.2.1 z.2.2, fun p hp => ?_, H.B, H.X, H.T, H.lt, H.ne, H.G, H.cd1, H.cd2, fun p hp => H.nt p (.tail _ hp)⟩
  have hn : @Ne Nat p.1 it := by
    simp only [List.mem_cons] at hp
    rcases hp with rfl | rfl | rfl | rfl | rfl | rfl | rfl | hp
    · exact Ne.symm i7
    · exact Ne.symm i6
    · exact Ne.symm i5
    · exact Ne.symm i1
    · exact Ne.symm i2
    · exact Ne.symm i3
    · exact Ne.symm i4
    · exact hne p hp
  have zp := H.N p (mem8 (fun q => .tail _ q) hp)
  exact ⟨hs _ _ hn zp.1, zp.2⟩
theorem LwAt.iter (H : LwAt w mean mg mb gd base g L b c oD oN oS ob oc o1 o2 ((it, oI) :: nt) m h) (hs : Heap.ExtBut it h h') (hit' : h'.get? it = some oI') (hne : ∀ p ∈ nt, @Ne Nat p.1 it) : LwAt w mean mg mb gd base g L b c oD oN oS ob oc o1 o2 ((it, oI') :: nt) m h' := by
  have z := H.get (.head _)
  have K := H.extBut hs hne
  have hh := H.nt (it, oI) (.head _)
  refine ⟨K.F, fun p hp => ?_, K.B, K.X, K.T, K.lt, K.ne, K.G, K.cd1, K.cd2, fun p hp => ?_⟩
  · by_cases q : p = (it, oI')
    · subst q
      exact ⟨hit', z.2⟩
    · exact K.N p (mem8 (fun hp => (List.mem_cons.mp hp).resolve_left q) hp)
  · rcases List.mem_cons.mp hp with rfl | hp
    · exact hh
    · exact K.nt p hp
/-- a new object goes onto the tail -/
theorem LwAt.push {o : Obj} (H : LwAt w mean mg mb gd base g L b c oD oN oS ob oc o1 o2 nt m h) (hf : o.isFreed = false) (hnd : ∀ es n, o.data ≠ .dict es n) : LwAt w mean mg mb gd base g L b c oD oN oS ob oc o1 o2 ((h.objs.size, o) :: nt) m (h.push o) := by
  have hpush : ∀ b o', h.get? b = some o' → (h.push o).get? b = some o' := fun b o' e => Heap.get?_push_of_some _ e
  have F3 := H.F.keeps hpush
  have N3 := News.more F3 (H.N.grown hpush) (Heap.get?_push_size _ hf) hnd (next_is_new H.F)
  have lt : ∀ {a : Addr} {x : Obj}, h.get? a = some x → NeN h.objs.size a := fun e => Nat.ne_of_gt (Heap.lt_size e)
  refine ⟨F3, fun p hp => N3 p (mem_swap (a := [_]) (b := [_, _, _, _, _, _, _]) hp), H.B, H.X, H.T, H.lt, H.ne, H.G, H.cd1, H.cd2, fun p hp => ?_⟩
  rcases List.mem_cons.mp hp with rfl | hp
  · exact ⟨lt (H.N _ (.tail _ (.tail _ (.tail _ (.head _))))).1, lt (H.N _ (.tail _ (.tail _ (.tail _ (.tail _ (.head _)))))).1, lt (H.N _ (.tail _ (.tail _ (.tail _ (.tail _ (.tail _ (.head _))))))).1, lt (H.N _ (.tail _ (.tail _ (.tail _ (.tail _ (.tail _ (.tail _ (.head _)))))))).1, lt (H.N _ (.tail _ (.tail _ (.head _)))).1, lt (H.N _ (.tail _ (.head _))).1, lt (H.N _ (.head _)).1⟩
  · exact H.nt p hp
end
theorem lwM_eq {m : Str → Option Value} {b e : Addr} (h1 : m (Str.ofString "box") = some (.ref b)) (h2 : m (Str.ofString "edges") = some (.ref e)) : m = lwM b e m := by
  funext y
  by_cases e1 : y = Str.ofString "box"
  · subst e1
    exact h1
  · by_cases e2 : y = Str.ofString "edges"
    · subst e2
      show _ = if _ then _ else _
      rw [if_neg e1, if_pos rfl]
      exact h2
    · show _ = if _ then _ else _
      rw [if_neg e1, if_neg e2]
noncomputable abbrev lwTgt : PySem.Expr := forTgt (stAt lawBody 2)
noncomputable abbrev lwIter : PySem.Expr := forIter (stAt lawBody 2)
theorem lwLoop_is : lwLoop = [stAt lwLoop 0, stAt lwLoop 1] := by with_unfolding_all rfl
theorem lwAssign (w : World) {mean : ExcName → Option Value} {mg mb : Str → Option Value} {gd : Option (List Code)} {base g : Heap} {s : Shared} {L b c e : Addr} {m : Str → Option Value} {Q : Unit → Shared → Prop} {E : Value → Shared → Prop} {oD oN oS ob oc o1 o2 : Obj} {nt : List (Addr × Obj)} {x : Int} {tx : Tok}
  (H : LwAt w mean mg mb gd base g L b c oD oN oS ob oc o1 o2 nt (lwM b e m) s.heap)
  (hQ : ∀ m' h' tk', LwAt w mean mg mb gd base g L b c oD oN oS ob oc o1 o2 nt (lwM b e m') h' → Q () { s with heap := h', toks := tk' }) :
  wpAny (model PySem.Challenge.rw_no0060_01.row.prog w) ((zA 352 172 [] gd).deeper (lawEnv L)) (assign lwTgt (lawEnv L) (.int x tx)) Q E s := by
  have hfill : (Mine.hd.heap_1 w.params).In g → PySem.Challenge.rw_no0060_01 = PySem.Challenge.rw_no0060_01 := by k_fill; intro _; rfl
  clear hfill
  obtain ⟨F, N, B, X, T, ⟨l1, l2⟩, hne, ⟨A', s₀, G⟩, cd1, cd2, hnt⟩ := H
  obtain ⟨S, hS⟩ : ∃ S, S = lawScope := ⟨_, rfl⟩
  obtain ⟨st, hst⟩ : ∃ S, S = lwTgt := ⟨_, rfl⟩
  unfold lawEnv
  rw [← hS, ← hst]
  conv at hS => rhs; whnf
  conv at hst => rhs; whnf
  subst hS hst
  k_steps
  rename Fr _ _ _ _ => F9
  rename News _ _ _ _ => N9
  have F9' := lwM_eq (b := b) (e := e) (m := fun y => if y = Str.ofString "turn" then some (.int x tx) else lwM b e m y) rfl rfl ▸ F9
  exact hQ _ _ _ ⟨F9', N9, B, X, T, ⟨l1, l2⟩, hne, ⟨_, _, G⟩, cd1, cd2, hnt⟩
theorem lwIterE (w : World) {mean : ExcName → Option Value} {mg mb : Str → Option Value} {gd : Option (List Code)} {base g : Heap} {s : Shared} {L b c : Addr} {m : Str → Option Value} {Q : Value → Shared → Prop} {E : Value → Shared → Prop} {oD oN oS ob oc o1 o2 : Obj} {nt : List (Addr × Obj)}
  (H : LwAt w mean mg mb gd base g L b c oD oN oS ob oc o1 o2 nt m s.heap) {t : Sem Value} (ht : t = eval lwIter (lawEnv L))
  (hQ : ∀ rr t1 t2 t3 h' tk', IsRange h' rr 0 2 1 t1 t2 t3 → LwAt w mean mg mb gd base g L b c oD oN oS ob oc o1 o2 nt m h' → Q (.ref rr) { s with heap := h', toks := tk' }) :
  wpAny (model PySem.Challenge.rw_no0060_01.row.prog w) ((zA 352 172 [] gd).deeper (lawEnv L)) t Q E s := by
  subst ht
  have hfill : (Mine.hd.heap_1 w.params).In g → PySem.Challenge.rw_no0060_01 = PySem.Challenge.rw_no0060_01 := by k_fill; intro _; rfl
  clear hfill
  obtain ⟨F, N, B, X, T, ⟨l1, l2⟩, hne, ⟨A', s₀, G⟩, cd1, cd2, hnt⟩ := H
  obtain ⟨S, hS⟩ : ∃ S, S = lawScope := ⟨_, rfl⟩
  obtain ⟨st, hst⟩ : ∃ S, S = lwIter := ⟨_, rfl⟩
  unfold lawEnv
  rw [← hS, ← hst]
  conv at hS => rhs; whnf
  conv at hst => rhs; whnf
  subst hS hst
  k_steps
  rename IsRange _ _ _ _ _ _ _ _ => hr
  rename Fr _ _ _ _ => F9
  rename News _ _ _ _ => N9
  exact hQ _ _ _ _ _ _ hr ⟨F9, N9, B, X, T, ⟨l1, l2⟩, hne, ⟨_, _, G⟩, cd1, cd2, hnt⟩
noncomputable abbrev rngI (i : Nat) : Obj := { cls := .type "range_iterator", dict := none, data := .fields #[rawInt (0 + ((i + 1 : Nat) : Int) * 1), rawInt (((2 : Nat) : Int) - ((i + 1 : Nat) : Int)), rawInt 1], slots := #[] }
/-- law's first loop stands before its turn i -/
noncomputable def LqAt (w : World) (mean : ExcName → Option Value) (mg mb : Str → Option Value) (gd : Option (List Code)) (base : Heap) (L b c e it : Addr) (tr : Tok) (oD oS o2 : Obj) (r : Int) (nb nc : Nat) (vs : List Value) (nt nt1 : List (Addr × Obj)) (i : Nat) (h : Heap) : Prop :=
  ∃ g oN cv k tk2 ps ce m oI, LwAt w mean mg mb gd base g L b c oD oN oS (boxO c k r tk2 tr nb) (listOf vs.toArray nc) (tabObj ps) o2 ((it, oI) :: (ce ++ nt)) (lwM b e m) h ∧
    oN.data = .cell cv ∧ IsRangeIter h it (0 + (i : Nat) * 1) ((2 : Nat) - (i : Nat)) 1 ∧ TabI nrQ ps (ce ++ nt1) ∧ (∀ p ∈ ce, @LT.lt Nat _ it p.1) ∧ 0 ≤ k ∧ k ≤ 10 * i
noncomputable def LqEnd (w : World) (mean : ExcName → Option Value) (mg mb : Str → Option Value) (gd : Option (List Code)) (base : Heap) (L b c e it : Addr) (tr : Tok) (oD oS o2 : Obj) (r : Int) (nb nc : Nat) (vs : List Value) (nt nt1 : List (Addr × Obj)) (h : Heap) : Prop :=
  ∃ g oN cv k tk2 ps ce m, LwAt w mean mg mb gd base g L b c oD oN oS (boxO c k r tk2 tr nb) (listOf vs.toArray nc) (tabObj ps) o2 (ce ++ nt) (lwM b e m) h ∧
    oN.data = .cell cv ∧ TabI nrQ ps (ce ++ nt1) ∧ 0 ≤ k ∧ k ≤ 20
theorem lwLoopC (w : World) {mean : ExcName → Option Value} {mg mb : Str → Option Value} {gd : Option (List Code)} {base : Heap} {s : Shared} {L b c e it : Addr} {tr : Tok} {oD oS o2 : Obj} {r : Int} {nb nc ne : Nat} {vs its : List Value} {ns : List Int} {nt nt1 : List (Addr × Obj)} {R : Result → Shared → Prop}
  (he : (e, listOf its.toArray ne) ∈ nt) (hE : Edges its) (hne : ∀ p ∈ nt, @Ne Nat p.1 it) (hsub : ∀ p ∈ nt1, p ∈ nt)
  (hi : IntsAre vs ns) (h0 : ∀ x ∈ ns, 0 ≤ x) (hlen : ns.length ≤ 24) (r0 : 0 ≤ r) (r1 : r < 2 ^ 40)
  (hR : ∀ h tk, LqEnd w mean mg mb gd base L b c e it tr oD oS o2 r nb nc vs nt nt1 h → R (.ok .next) { s with heap := h, toks := tk })
  {cc : Code} (hcc : cc = .forLoop lwTgt (.ref it) lwLoop [] (lawEnv L)) : ∀ j i h tk, j + i = 2 → LqAt w mean mg mb gd base L b c e it tr oD oS o2 r nb nc vs nt nt1 i h →
    codeC (model PySem.Challenge.rw_no0060_01.row.prog w) ((zA 352 172 [] gd).deeper (lawEnv L)) cc R { s with heap := h, toks := tk } := by
  subst hcc
  intro j
  have W : Walks PySem.Challenge.rw_no0060_01.row.prog w ((zA 352 172 [] gd).deeper (lawEnv L)) it [it] [it] 2 (fun i v => ∃ t, v = .int (0 + i * 1) t) (fun i h => IsRangeIter h it (0 + (i : Nat) * 1) (((2 : Nat) : Int) - (i : Nat)) 1) := Walks.range rfl it 0 1 2
  induction j with
  | zero =>
    intro i h tk hj S
    obtain ⟨g, oN, cv, k, tk2, ps, ce, m, oI, H, dN, hI, TI, hce, e0, e1⟩ := S
    have hi4 : i = 2 := by omega
    subst hi4
    have hneall : ∀ p ∈ ce ++ nt, @Ne Nat p.1 it := fun p hp => by
      rcases List.mem_append.mp hp with hp | hp
      · exact Nat.ne_of_gt (hce p hp)
      · exact hne p hp
    refine forLoop_C (W.done _ _ _ hI fun h' tk' hs => ?_)
    refine execs_nilC (hR h' tk' ?_)
    exact ⟨g, oN, cv, k, tk2, ps, ce, m, H.extBut (fun b o nb e => hs b o (fun q => nb (List.mem_singleton.mp q)) e) hneall, dN, TI, e0, by omega⟩
  | succ j ih =>
    intro i h tk hj S
    obtain ⟨g, oN, cv, k, tk2, ps, ce, m, oI, H, dN, hI, TI, hce, e0, e1⟩ := S
    have hneall : ∀ p ∈ ce ++ nt, @Ne Nat p.1 it := fun p hp => by
      rcases List.mem_append.mp hp with hp | hp
      · exact Nat.ne_of_gt (hce p hp)
      · exact hne p hp
    refine forLoop_C (W.item i _ _ _ (by omega) hI fun v h' tk' hv hI' hs => ?_)
    obtain ⟨t, rfl⟩ := hv
    have H2 := H.iter (fun b o nb e => hs b o (fun q => nb (List.mem_singleton.mp q)) e) hI' hneall
    refine wpAny_of_eq (a := ()) rfl ?_
    refine lwAssign w H2 fun m' h2 tk2' H3 => ?_
    rw [lwLoop_is]
    refine execs_C (wpC_any (lwT0 w H3 (.tail _ (List.mem_append_right _ he)) hE dN hi h0 hlen e0 (by omega) r0 r1 fun oN' v tv tk3 h3 tk3' v0 v1 dN' H4 => ?_))
    have hsub' : ∀ q ∈ ce ++ nt1, q ∈ (it, rngI i) :: (ce ++ nt) := fun q hq => by
      rcases List.mem_append.mp hq with hq | hq
      · exact .tail _ (List.mem_append_left _ hq)
      · exact .tail _ (List.mem_append_right _ (hsub _ hq))
    refine execs_C (lwT1 w H4 dN' v0 v1 TI hsub' hi h0 hlen (by omega) (by omega) r0 r1 fun g' k' tk4 ps' ce' h4 tk4' H5 TI' hce' e2 e3 => ?_)
    refine execs_nilC ?_
    refine ih (i + 1) h4 tk4' (by omega) ?_
    have zi := H5.get (p := (it, rngI i)) (List.mem_append_right _ (.head _))
    refine ⟨g', oN', _, k', tk4, ps', ce' ++ ce, m', rngI i, H5.tail fun p hp => ?_, dN', zi.1, ?_, fun p hp => ?_, by omega, by omega⟩
    · rcases List.mem_cons.mp hp with rfl | hp
      · exact List.mem_append_right _ (.head _)
      · rcases List.mem_append.mp hp with hp | hp
        · rcases List.mem_append.mp hp with hp | hp
          · exact List.mem_append_left _ hp
          · exact List.mem_append_right _ (.tail _ (List.mem_append_left _ hp))
        · exact List.mem_append_right _ (.tail _ (List.mem_append_right _ hp))
    · rw [List.append_assoc]
      exact TI'
    · rcases List.mem_append.mp hp with hp | hp
      · exact hce' p hp (it, rngI i) (.head _)
      · exact hce p hp
/-- law's first loop -/
theorem lwS2 (w : World) {mean : ExcName → Option Value} {mg mb : Str → Option Value} {gd : Option (List Code)} {base g : Heap} {s : Shared} {L b c e : Addr} {m : Str → Option Value} {Q : Flow → Shared → Prop} {oD oN oS o2 : Obj} {nt nt1 : List (Addr × Obj)} {r : Int} {tk tr : Tok} {nb nc ne : Nat} {vs its : List Value} {ns : List Int} {ps : Array Value} {cv : Option Value}
  (H : LwAt w mean mg mb gd base g L b c oD oN oS (boxO c 0 r tk tr nb) (listOf vs.toArray nc) (tabObj ps) o2 nt (lwM b e m) s.heap)
  (dN : oN.data = .cell cv) (he : (e, listOf its.toArray ne) ∈ nt) (hE : Edges its) (I : TabI nrQ ps nt1) (hsub : ∀ q ∈ nt1, q ∈ nt)
  (hi : IntsAre vs ns) (h0 : ∀ x ∈ ns, 0 ≤ x) (hlen : ns.length ≤ 24) (r0 : 0 ≤ r) (r1 : r < 2 ^ 40)
  (hQ : ∀ g' oN' cv' k tk2 ps' ce m' h' tk', LwAt w mean mg mb gd base g' L b c oD oN' oS (boxO c k r tk2 tr nb) (listOf vs.toArray nc) (tabObj ps') o2 (ce ++ nt) (lwM b e m') h' → oN'.data = .cell cv' →
    TabI nrQ ps' (ce ++ nt1) → 0 ≤ k → k ≤ 20 → Q .next { s with heap := h', toks := tk' })
  {t : Sem Flow} (ht : t = exec (stAt lawBody 2) (lawEnv L)) : wpC (model PySem.Challenge.rw_no0060_01.row.prog w) ((zA 352 172 [] gd).deeper (lawEnv L)) t Q NoE s := by
  subst ht
  have eq : stAt lawBody 2 = .For lwTgt lwIter lwLoop [] (forPos (stAt lawBody 2)) := by with_unfolding_all rfl
  rw [eq]
  refine @For_C _ _ _ _ _ _ _ _ _ _ _ ?_ (by intro _; with_unfolding_all rfl)
  obtain ⟨ti, hti⟩ : ∃ t, t = eval lwIter (lawEnv L) := ⟨_, rfl⟩
  rw [← hti]
  refine lwIterE w H (ht := hti) fun rr t1 t2 t3 h' tk' hr H2 => ?_
  refine wpAny_pyIter_range hr (by decide) ?_
  obtain ⟨cc, hcc⟩ : ∃ c, c = Code.forLoop lwTgt (.ref h'.objs.size) lwLoop [] (lawEnv L) := ⟨_, rfl⟩
  rw [← hcc]
  have H3 := H2.push (o := { cls := .type "range_iterator", data := .fields #[rawInt 0, rawInt (Builtin.Range.rangeSize 0 2 1), rawInt 1] }) rfl (fun es n q => by cases q)
  refine lwLoopC w (s := s) (nt := nt) (nt1 := nt1) (e := e) (b := b) (c := c) (oD := oD) (oS := oS) (o2 := o2) (r := r) (nb := nb) (nc := nc) (tr := tr) (mean := mean) (mg := mg) (mb := mb) (base := base) he hE (fun p hp => Nat.ne_of_lt (Heap.lt_size (H2.get hp).1)) hsub hi h0 hlen r0 r1 ?_ hcc 2 0 _ tk' rfl
    ⟨g, oN, cv, 0, tk, ps, [], m, _, H3, dN, Heap.get?_push_size _ rfl, I, (fun p hp => nomatch hp), Int.le_refl _, by omega⟩
  rintro h2 tk2 ⟨g', oN', cv', k, tk3, ps', ce, m', H4, dN', TI, e0, e1⟩
  exact hQ g' oN' cv' k tk3 ps' ce m' h2 tk2 H4 dN' TI e0 e1
end Mine
end

section
open PySem PySem.W PySem.Spec PySem.Calls PyProof.Rows
set_option maxRecDepth 100000
set_option maxHeartbeats 8000000
namespace Mine
noncomputable abbrev lwM3 (gr : Int) (tg : Tok) (b e : Addr) (m : Str → Option Value) : Str → Option Value := fun y => if y = Str.ofString "great" then some (.int gr tg) else if y = Str.ofString "box" then some (.ref b) else if y = Str.ofString "edges" then some (.ref e) else m y
theorem first_int {vs : List Value} {ns : List Int} (hi : IntsAre vs ns) (h0 : ∀ x ∈ ns, 0 ≤ x) (hn : ns ≠ []) : ∃ x t, vs[Int.toNat 0]? = some (.int x t) ∧ 0 ≤ x := by
  cases hi with
  | nil => exact absurd rfl hn
  | cons t h => exact ⟨_, _, rfl, h0 _ (.head _)⟩
theorem lwS3 (w : World) {mean : ExcName → Option Value} {mg mb : Str → Option Value} {gd : Option (List Code)} {base g : Heap} {s : Shared} {L b c e : Addr} {m : Str → Option Value} {Q : Flow → Shared → Prop} {E : Value → Shared → Prop} {oD oN oS o1 o2 : Obj} {nt : List (Addr × Obj)} {k r : Int} {tk tr : Tok} {nb nc : Nat} {vs : List Value} {ns : List Int}
  (H : LwAt w mean mg mb gd base g L b c oD oN oS (boxO c k r tk tr nb) (listOf vs.toArray nc) o1 o2 nt (lwM b e m) s.heap)
  (hi : IntsAre vs ns) (h0 : ∀ x ∈ ns, 0 ≤ x)
  (hQ : ∀ gr tg h' tk', 0 ≤ gr → LwAt w mean mg mb gd base g L b c oD oN oS (boxO c k r tk tr nb) (listOf vs.toArray nc) o1 o2 nt (lwM3 gr tg b e m) h' → Q .next { s with heap := h', toks := tk' }) :
  wpAny (model PySem.Challenge.rw_no0060_01.row.prog w) ((zA 352 172 [] gd).deeper (lawEnv L)) (exec (stAt lawBody 3) (lawEnv L)) Q E s := by
  have hfill : (Mine.hd.heap_1 w.params).In g → PySem.Challenge.rw_no0060_01 = PySem.Challenge.rw_no0060_01 := by k_fill; intro _; rfl
  clear hfill
  obtain ⟨F, N, B, X, T, ⟨l1, l2⟩, hne, ⟨A', s₀, G⟩, cd1, cd2, hnt⟩ := H
  obtain ⟨S, hS⟩ : ∃ S, S = lawScope := ⟨_, rfl⟩
  obtain ⟨st, hst⟩ : ∃ S, S = stAt lawBody 3 := ⟨_, rfl⟩
  unfold lawEnv
  rw [← hS, ← hst]
  conv at hS => rhs; whnf
  conv at hst => rhs; whnf
  subst hS hst
  obtain ⟨n1, n2, n3, n4, n5, n6, n7, n8, n9, n10, n11⟩ := id hne
  dsimp only [NeN] at n1 n2 n3 n4 n5 n6 n7 n8 n9 n10 n11
  (repeat' (first | (k_unfold; (try dsimp only)) | (k_end; wrow_close) | ((with_reducible show wpAny _ _ (subscriptTail _ _ (Value.ref _) (Value.int _ _)) _ _ _); first | (with_reducible ((with_unfolding_all refine' my_item ?k1 ?k2 ?k3 ?k4 ?k5 ?_ ?k6; (case k1 => k_asm); (case k2 => k_mem); (case k3 => decide); (case k4 => decide); (case k5 => rfl); (case k6 => with_unfolding_all rfl); k_whole))) | ((with_unfolding_all refine' my_item ?k1 ?k2 ?k3 ?k4 ?k5 ?_ ?k6; (case k1 => k_asm); (case k2 => k_mem); (case k3 => decide); (case k4 => decide); (case k5 => rfl); (case k6 => with_unfolding_all rfl); k_whole))) | walk1 | (dsimp only; walk1) | (leave1; (try dsimp only)) | fail "no step"))
  · rename Fr _ _ _ _ => F9
    rename News _ _ _ _ => N9
    exact hQ _ _ _ _ (by decide) ⟨F9, fun p hp => N9 p (.tail _ hp), B, X, T, ⟨l1, l2⟩, hne, ⟨_, _, G⟩, cd1, cd2, hnt⟩
  · rename Fr _ _ _ _ => F9
    rename News _ _ _ _ => N9
    rename decide (ns = []) = false => hn
    obtain ⟨x, xt, hx, hx0⟩ := first_int hi h0 (of_decide_eq_false hn)
    with_unfolding_all refine my_item N9 (.tail _ (.tail _ (.tail _ (.tail _ (.tail _ (.head _)))))) (by decide) (by decide) hx ?_ (by with_unfolding_all rfl)
    (repeat' (first | (k_unfold; (try dsimp only)) | (k_end; wrow_close) | ((with_reducible show wpAny _ _ (subscriptTail _ _ (Value.ref _) (Value.int _ _)) _ _ _); first | (with_reducible ((with_unfolding_all refine' my_item ?k1 ?k2 ?k3 ?k4 ?k5 ?_ ?k6; (case k1 => k_asm); (case k2 => k_mem); (case k3 => decide); (case k4 => decide); (case k5 => rfl); (case k6 => with_unfolding_all rfl); k_whole))) | ((with_unfolding_all refine' my_item ?k1 ?k2 ?k3 ?k4 ?k5 ?_ ?k6; (case k1 => k_asm); (case k2 => k_mem); (case k3 => decide); (case k4 => decide); (case k5 => rfl); (case k6 => with_unfolding_all rfl); k_whole))) | walk1 | (dsimp only; walk1) | (leave1; (try dsimp only)) | fail "no step"))
    rename Fr _ _ _ _ => F9
    rename News _ _ _ _ => N9
    exact hQ _ _ _ _ hx0 ⟨F9, fun p hp => N9 p (.tail _ hp), B, X, T, ⟨l1, l2⟩, hne, ⟨_, _, G⟩, cd1, cd2, hnt⟩
end Mine
end

section
open PySem PySem.W PySem.Spec PySem.Calls PyProof.Rows
set_option maxRecDepth 100000
set_option maxHeartbeats 8000000
namespace Mine
theorem news_tail {g h : Heap} {L : Addr} {x : Addr × Obj} {l : List (Addr × Obj)} (N : News g L h (x :: l)) : News g L h l := fun p hp => N p (.tail _ hp)
theorem menu4 {t0 t1 t2 t3 : Tok} {k : Int} (h0 : 0 ≤ k) (h1 : k < 4) : ∃ x t, [Value.int 6 t0, .int 14 t1, .int 30 t2, .int 62 t3][k.toNat]? = some (.int x t) ∧ 0 ≤ x ∧ x ≤ 62 := by
  have hc : k = 0 ∨ k = 1 ∨ k = 2 ∨ k = 3 := by omega
  rcases hc with rfl | rfl | rfl | rfl
  · exact ⟨_, _, rfl, by decide, by decide⟩
  · exact ⟨_, _, rfl, by decide, by decide⟩
  · exact ⟨_, _, rfl, by decide, by decide⟩
  · exact ⟨_, _, rfl, by decide, by decide⟩
theorem gm_in {y x : Int} (h0 : 0 ≤ x) (h1 : x ≤ 62) : 0 ≤ y.fmod (2 ^ x.toNat) ∧ y.fmod (2 ^ x.toNat) < 4611686018427387904 := by
  have hp : (0 : Int) < 2 ^ x.toNat := Int.pow_pos (by decide)
  have hle : (2 : Int) ^ x.toNat ≤ 2 ^ 62 := by
    have h : (2 : Nat) ^ x.toNat ≤ 2 ^ 62 := Nat.pow_le_pow_right (by decide) (by omega)
    exact_mod_cast h
  have e : (2 : Int) ^ 62 = 4611686018427387904 := by decide
  exact ⟨Int.fmod_nonneg_of_pos _ hp, by have := Int.fmod_lt_of_pos y hp; omega⟩
theorem lwS4 (w : World) {mean : ExcName → Option Value} {mg mb : Str → Option Value} {gd : Option (List Code)} {base g : Heap} {s : Shared} {L b c e : Addr} {m : Str → Option Value} {Q : Flow → Shared → Prop} {oD oN oS o2 : Obj} {nt nt1 : List (Addr × Obj)} {k r gr : Int} {tk tr tg : Tok} {nb nc : Nat} {vs : List Value} {ns : List Int} {ps : Array Value}
  (H : LwAt w mean mg mb gd base g L b c oD oN oS (boxO c k r tk tr nb) (listOf vs.toArray nc) (tabObj ps) o2 nt (lwM3 gr tg b e m) s.heap)
  (I : TabI nrQ ps nt1) (hsub : ∀ q ∈ nt1, q ∈ nt)
  (hi : IntsAre vs ns) (h0 : ∀ x ∈ ns, 0 ≤ x) (hlen : ns.length ≤ 24) (k0 : 0 ≤ k) (k1 : k + 20 < 2 ^ 30) (r0 : 0 ≤ r) (r1 : r < 2 ^ 40)
  (hQ : ∀ g' k' tk2 ps' ce h' tk', LwAt w mean mg mb gd base g' L b c oD oN oS (boxO c k' r tk2 tr nb) (listOf vs.toArray nc) (tabObj ps') o2 (ce ++ nt) (lwM3 gr tg b e m) h' → TabI nrQ ps' (ce ++ nt1) → (∀ p ∈ ce, ∀ q ∈ nt, @LT.lt Nat _ q.1 p.1) → k ≤ k' → k' ≤ k + 9 → Q .next { s with heap := h', toks := tk' }) :
  wpC (model PySem.Challenge.rw_no0060_01.row.prog w) ((zA 352 172 [] gd).deeper (lawEnv L)) (exec (stAt lawBody 4) (lawEnv L)) Q NoE s := by
  have hfill : (Mine.hd.heap_1 w.params).In g → PySem.Challenge.rw_no0060_01 = PySem.Challenge.rw_no0060_01 := by k_fill; intro _; rfl
  clear hfill
  have hne := H.ne
  obtain ⟨F, N, B, X, T, ⟨l1, l2⟩, _, ⟨A', s₀, G⟩, cd1, cd2, hnt⟩ := id H
  obtain ⟨S, hS⟩ : ∃ S, S = lawScope := ⟨_, rfl⟩
  obtain ⟨st, hst⟩ : ∃ S, S = stAt lawBody 4 := ⟨_, rfl⟩
  have hlaw : lawEnv L = envOfC (Str.ofString "law") lawScope L 184 (.ref 183) := rfl
  unfold lawEnv
  rw [← hS, ← hst]
  conv at hS => rhs; whnf
  conv at hst => rhs; whnf
  subst hS hst
  obtain ⟨n1, n2, n3, n4, n5, n6, n7, n8, n9, n10, n11⟩ := id hne
  dsimp only [NeN] at n1 n2 n3 n4 n5 n6 n7 n8 n9 n10 n11
  refine If_C (isTrue_notC (isTrue_callC (Call_C ?_)))
  (repeat' (first | (k_unfold; (try dsimp only)) | (k_end; wrow_close) | ((with_reducible show wpAny _ _ (call (Value.ref 158) _) _ _ _); first | (with_reducible ((with_unfolding_all refine' take_K ?B ?F ?X ?N ?T ?hk ?hb ?hc hi h0 n1 hlen ?k0 ?k1 r0 r1 ?m0 ?m1 ?hd ?hu ?U ?_; (case hk => exact rfl); (case B => k_asm); (case F => k_asm); (case X => k_asm); (case N => k_asm); (case T => k_asm); (case hb => k_mem); (case hc => k_mem); (case k0 => omega); (case k1 => omega); (case m0 => omega); (case m1 => omega); (case hd => exact (by decide : 352 + 1 + 5 < recursionLimit)); (case hu => exact (by decide : 172 + 3 + 20 < cLine)); (case U => k_updF)); k_whole; (intro v' t' t2' h' tk' v0' v1' F' N'); (try dsimp only at N'); (try k_sweep))) | ((with_unfolding_all refine' take_K ?B ?F ?X ?N ?T ?hk ?hb ?hc hi h0 n1 hlen ?k0 ?k1 r0 r1 ?m0 ?m1 ?hd ?hu ?U ?_; (case hk => exact rfl); (case B => k_asm); (case F => k_asm); (case X => k_asm); (case N => k_asm); (case T => k_asm); (case hb => k_mem); (case hc => k_mem); (case k0 => omega); (case k1 => omega); (case m0 => omega); (case m1 => omega); (case hd => exact (by decide : 352 + 1 + 5 < recursionLimit)); (case hu => exact (by decide : 172 + 3 + 20 < cLine)); (case U => k_updF)); k_whole; (intro v' t' t2' h' tk' v0' v1' F' N'); (try dsimp only at N'); (try k_sweep))) | ((with_reducible show wpAny _ _ (binaryOp Operator.Pow (Value.int _ _) (Value.int _ _)) _ _ _); first | (with_reducible ((with_reducible refine pow_two (by omega) (by omega) ?_))) | ((with_reducible refine pow_two (by omega) (by omega) ?_))) | ((with_reducible show wpAny _ _ (subscriptTail _ _ (Value.ref _) (Value.int _ _)) _ _ _); first | (with_reducible ((rename News _ _ _ _ => N3); (obtain ⟨xx, xt, hx, hx0, hx1⟩ := menu4 v0' v1'); (with_unfolding_all refine my_item N3 (.head _) v0' (by omega) hx ?_ (by with_unfolding_all rfl)))) | ((rename News _ _ _ _ => N3); (obtain ⟨xx, xt, hx, hx0, hx1⟩ := menu4 v0' v1'); (with_unfolding_all refine my_item N3 (.head _) v0' (by omega) hx ?_ (by with_unfolding_all rfl)))) | walk1 | (dsimp only; walk1) | (leave1; (try dsimp only)) | fail "no step"))
  rename Fr _ _ _ _ => F3
  rename News _ _ _ _ => N3
  replace N3 := news_tail N3
  refine CallC.of (X.keeps F3.keep) (by kernel_rfl) rfl (wpC_call (nr_C w (nt0 := nt1) (k := k + 1) (tk := t2') (tr := tr) (r := r) (nb := nb) (nc := nc) (vs := vs) (ps := ps) (b := b) (c := c) (Gr.pushX G B F3 rfl rfl (by decide) (by decide)) cd1 ?hh ?hd0 I hi h0 ⟨n1, n7, n2⟩ hlen (by omega) (by omega) r0 r1 ?x0 ?x1 ?hR))
  case hh =>
    intro p hp
    have hm : p ∈ ((L + 1 + 1 + 1, oS) :: (L + 1 + 1, oN) :: (L + 1, oD) :: (b, boxO c (k + 1) r t2' tr nb) :: (c, listOf vs.toArray nc) :: (174, tabObj ps) :: (179, o2) :: nt) := by
      rcases List.mem_cons.mp hp with rfl | hp
      · exact .tail _ (.tail _ (.tail _ (.head _)))
      · rcases List.mem_cons.mp hp with rfl | hp
        · exact .tail _ (.tail _ (.tail _ (.tail _ (.head _))))
        · rcases List.mem_cons.mp hp with rfl | hp
          · exact .tail _ (.tail _ (.tail _ (.tail _ (.tail _ (.head _)))))
          · exact .tail _ (.tail _ (.tail _ (.tail _ (.tail _ (.tail _ (.tail _ (hsub _ hp)))))))
    have z := N3 p hm
    refine ⟨z.1, ?_, fun q => z.2.1 (List.mem_singleton.mp q)⟩
    cases q : base.get? p.1 with
    | none => rfl
    | some o =>
      have y := B.stays _ _ q
      rw [z.2.2] at y
      cases y
  case hd0 => exact fun p hp => ⟨(hnt p (hsub p hp)).1, (hnt p (hsub p hp)).2.2.1⟩
  case x0 => exact (gm_in hx0 hx1).1
  case x1 => exact (gm_in hx0 hx1).2
  case hR =>
    intro k' tk2 ps' ce h2 tk' TT hin hce I' e0 e1
    dsimp only
    refine Exists.elim (LwAt.nr (w := w) ⟨F3, N3, B, X, T, ⟨l1, l2⟩, hne, ⟨_, _, G⟩, cd1, cd2, hnt⟩ hsub TT hin hce) fun g' H2 => ?_
    (repeat' (first | (k_unfold; (try dsimp only)) | (k_end; wrow_close) | ((with_reducible show wpAny _ _ (call (Value.ref 158) _) _ _ _); first | (with_reducible ((with_unfolding_all refine' take_K ?B ?F ?X ?N ?T ?hk ?hb ?hc hi h0 n1 hlen ?k0 ?k1 r0 r1 ?m0 ?m1 ?hd ?hu ?U ?_; (case hk => exact rfl); (case B => k_asm); (case F => k_asm); (case X => k_asm); (case N => k_asm); (case T => k_asm); (case hb => k_mem); (case hc => k_mem); (case k0 => omega); (case k1 => omega); (case m0 => omega); (case m1 => omega); (case hd => exact (by decide : 352 + 1 + 5 < recursionLimit)); (case hu => exact (by decide : 172 + 3 + 20 < cLine)); (case U => k_updF)); k_whole; (intro v' t' t2' h' tk' v0' v1' F' N'); (try dsimp only at N'); (try k_sweep))) | ((with_unfolding_all refine' take_K ?B ?F ?X ?N ?T ?hk ?hb ?hc hi h0 n1 hlen ?k0 ?k1 r0 r1 ?m0 ?m1 ?hd ?hu ?U ?_; (case hk => exact rfl); (case B => k_asm); (case F => k_asm); (case X => k_asm); (case N => k_asm); (case T => k_asm); (case hb => k_mem); (case hc => k_mem); (case k0 => omega); (case k1 => omega); (case m0 => omega); (case m1 => omega); (case hd => exact (by decide : 352 + 1 + 5 < recursionLimit)); (case hu => exact (by decide : 172 + 3 + 20 < cLine)); (case U => k_updF)); k_whole; (intro v' t' t2' h' tk' v0' v1' F' N'); (try dsimp only at N'); (try k_sweep))) | ((with_reducible show wpAny _ _ (binaryOp Operator.Pow (Value.int _ _) (Value.int _ _)) _ _ _); first | (with_reducible ((with_reducible refine pow_two (by omega) (by omega) ?_))) | ((with_reducible refine pow_two (by omega) (by omega) ?_))) | ((with_reducible show wpAny _ _ (subscriptTail _ _ (Value.ref _) (Value.int _ _)) _ _ _); first | (with_reducible ((rename News _ _ _ _ => N3); (obtain ⟨xx, xt, hx, hx0, hx1⟩ := menu4 v0' v1'); (with_unfolding_all refine my_item N3 (.head _) v0' (by omega) hx ?_ (by with_unfolding_all rfl)))) | ((rename News _ _ _ _ => N3); (obtain ⟨xx, xt, hx, hx0, hx1⟩ := menu4 v0' v1'); (with_unfolding_all refine my_item N3 (.head _) v0' (by omega) hx ?_ (by with_unfolding_all rfl)))) | walk1 | (dsimp only; walk1) | (leave1; (try dsimp only)) | fail "no step"))
    (try dsimp only)
    refine execs_nilC ?_
    refine hQ g' k' _ ps' ce _ _ H2 I' (fun p hp q hq => ?_) (by omega) (by omega)
    exact Nat.lt_of_lt_of_le (Heap.lt_size (N3 q (.tail _ (.tail _ (.tail _ (.tail _ (.tail _ (.tail _ (.tail _ hq)))))))).1) (hce p hp)
end Mine
end

section
open PySem PySem.W PySem.Spec PySem.Calls PyProof.Rows
set_option maxRecDepth 100000
set_option maxHeartbeats 8000000
namespace Mine
noncomputable abbrev lawQ : Str := Str.ofString "law" ++ ".<locals>." ++ "<lambda>"
noncomputable abbrev lwLoop5 : List Stmt := forBody (stAt lawBody 5)
noncomputable abbrev NtOk (L b c : Addr) (nt : List (Addr × Obj)) : Prop := ∀ p ∈ nt, NeN p.1 b ∧ NeN p.1 c ∧ NeN p.1 174 ∧ NeN p.1 179 ∧ NeN p.1 (L + 1) ∧ NeN p.1 (L + 1 + 1) ∧ NeN p.1 (L + 1 + 1 + 1)
theorem app_sub {a b ce : List (Addr × Obj)} (h : ∀ q ∈ a, q ∈ b) : ∀ q ∈ ce ++ a, q ∈ ce ++ b := fun q hq => by
  rcases List.mem_append.mp hq with hq | hq
  · exact List.mem_append_left _ hq
  · exact List.mem_append_right _ (h q hq)
theorem hnt_app {L b c : Addr} {nt pre ce : List (Addr × Obj)} {oD oN oS ob oc o1 o2 : Obj} (hnt : NtOk L b c nt) (lce : ∀ r ∈ ce, ∀ q ∈ pre ++ nt, @LT.lt Nat _ q.1 r.1) (hS : (L + 1 + 1 + 1, oS) ∈ pre) (hN : (L + 1 + 1, oN) ∈ pre) (hD : (L + 1, oD) ∈ pre) (hb : (b, ob) ∈ pre) (hc : (c, oc) ∈ pre) (h1 : (174, o1) ∈ pre) (h2 : (179, o2) ∈ pre) : NtOk L b c (ce ++ nt) := fun p hp => by
  rcases List.mem_append.mp hp with hp | hp
  · have z := lce p hp
    exact ⟨Nat.ne_of_gt (z _ (List.mem_append_left _ hb)), Nat.ne_of_gt (z _ (List.mem_append_left _ hc)), Nat.ne_of_gt (z _ (List.mem_append_left _ h1)), Nat.ne_of_gt (z _ (List.mem_append_left _ h2)), Nat.ne_of_gt (z _ (List.mem_append_left _ hD)), Nat.ne_of_gt (z _ (List.mem_append_left _ hN)), Nat.ne_of_gt (z _ (List.mem_append_left _ hS))⟩
  · exact hnt p hp
theorem lwT5 (w : World) {mean : ExcName → Option Value} {mg mb : Str → Option Value} {gd : Option (List Code)} {base g : Heap} {s : Shared} {L b c : Addr} {m : Str → Option Value} {Q : Flow → Shared → Prop} {E : Value → Shared → Prop} {oD oN oS ob oc o1 : Obj} {nt nt2 : List (Addr × Obj)} {ps : Array Value} {n : Int} {tn : Tok}
  (H : LwAt w mean mg mb gd base g L b c oD oN oS ob oc o1 (tabObj ps) nt m s.heap)
  (dN : oN.data = .cell (some (.int n tn))) (hn : n < 0 ∨ 4611686018427387904 ≤ n) (I : TabI lawQ ps nt2) (hsub : ∀ q ∈ nt2, q ∈ nt)
  (hQ : ∀ g' ce ps' h' tk', LwAt w mean mg mb gd base g' L b c oD oN oS ob oc o1 (tabObj ps') (ce ++ nt) m h' → TabI lawQ ps' (ce ++ nt2) → (∀ p ∈ ce, ∀ q ∈ nt, @LT.lt Nat _ q.1 p.1) → Q .next { s with heap := h', toks := tk' }) :
  wpAny (model PySem.Challenge.rw_no0060_01.row.prog w) ((zA 352 172 [] gd).deeper (lawEnv L)) (exec (stAt lwLoop5 0) (lawEnv L)) Q E s := by
  have hfill : (Mine.hd.heap_1 w.params).In g → PySem.Challenge.rw_no0060_01 = PySem.Challenge.rw_no0060_01 := by k_fill; intro _; rfl
  clear hfill
  obtain ⟨F, N, B, X, T, ⟨l1, l2⟩, hne, ⟨A', s₀, G⟩, cd1, cd2, hnt⟩ := H
  obtain ⟨S, hS⟩ : ∃ S, S = lawScope := ⟨_, rfl⟩
  obtain ⟨st, hst⟩ : ∃ S, S = stAt lwLoop5 0 := ⟨_, rfl⟩
  unfold lawEnv
  rw [← hS, ← hst]
  conv at hS => rhs; whnf
  conv at hst => rhs; whnf
  subst hS hst
  obtain ⟨n1, n2, n3, n4, n5, n6, n7, n8, n9, n10, n11⟩ := id hne
  dsimp only [NeN] at n1 n2 n3 n4 n5 n6 n7 n8 n9 n10 n11
  (repeat' (first | (k_unfold; (try dsimp only)) | (k_end; wrow_close) | ((with_reducible show wpAny _ _ (callWith _ (Value.ref _) _ _ _) _ _ _); first | (with_reducible (k_dflt (refine' callWith_K ?k1 ?k2 ?_; (case k1 => k_asm); (case k2 => k_is); k_whole))) | (k_dflt (refine' callWith_K ?k1 ?k2 ?_; (case k1 => k_asm); (case k2 => k_is); k_whole))) | ((with_reducible show wpAny _ _ (binaryOp Operator.Mult (Value.ref _) (Value.int _ _)) _ _ _); first | (with_reducible ((rename Fr _ _ _ _ => F3); (rename News _ _ _ _ => N3); (with_unfolding_all refine KMa.mul F3 N3 (PySem.IsL.isList (N3 _ (.head _)).1) (by decide) (by decide) (Nat.le_of_ble_eq_true rfl) rfl ?_); (intro D' h' F' N' l9); (try dsimp only [List.replicate, List.flatten, List.append, List.cons_append, List.nil_append, List.append_nil] at N'); (try k_lt l9); clear F3 N3)) | ((rename Fr _ _ _ _ => F3); (rename News _ _ _ _ => N3); (with_unfolding_all refine KMa.mul F3 N3 (PySem.IsL.isList (N3 _ (.head _)).1) (by decide) (by decide) (Nat.le_of_ble_eq_true rfl) rfl ?_); (intro D' h' F' N' l9); (try dsimp only [List.replicate, List.flatten, List.append, List.cons_append, List.nil_append, List.append_nil] at N'); (try k_lt l9); clear F3 N3)) | ((with_reducible show wpAny _ _ (call (Value.ref 172) _) _ _ _); first | (with_reducible ((rename Fr _ _ _ _ => F3); (rename News _ _ _ _ => N3); (first | (with_unfolding_all refine wpAny_call (refused_Q w (Gr.pushX G B F3 rfl rfl (by decide) (by decide)) (N3 _ (.head _)).1 rfl (fun A2 l2 s2 R2 G2 hk2 hR2 => lamN_R w G2 (hk2 _ _ (N3 _ (.head _)).1) rfl (hcr'.keeps hk2) ⟨oN, hk2 _ _ (N3 (L + 1 + 1, oN) (.tail _ (.tail _ (.head _)))).1, dN⟩ hn hR2) (fun a nx t1 t2 h2 tk2 TT ha1 ha2 => ?_))) | (with_unfolding_all refine wpAny_call (refused_Q w (Gr.pushX G B F3 rfl rfl (by decide) (by decide)) (N3 _ (.head _)).1 rfl (fun A2 l2 s2 R2 G2 hk2 hR2 => lamV_R w G2 (hk2 _ _ (N3 _ (.head _)).1) rfl (hcr2.keeps hk2) ⟨oN, hk2 _ _ (N3 (L + 1 + 1, oN) (.tail _ (.tail _ (.tail _ (.tail _ (.head _)))))).1, dN⟩ hn hR2) (fun a nx t1 t2 h2 tk2 TT ha1 ha2 => ?_)))); (try dsimp only); (obtain ⟨g2, T2, F4, N4, B4⟩ := turned B F3 N3 rfl TT); (with_unfolding_all have X4 := G.K.keeps B4.stays); (with_unfolding_all have T4 := G.top.keeps B4.stays); (have N5 := News.more F4 N4 ha2 (fun es n q => by cases q) (T2.none_ _ (kts_none F3.keep ha1))); (have ln := allNe_new ha1 N3); (simp only [AllNe, and_true] at ln); clear F3 N3 N4 B X T; (have B := B4); (have X := X4); (have T := T4); clear B4 X4 T4; (try dsimp only))) | ((rename Fr _ _ _ _ => F3); (rename News _ _ _ _ => N3); (first | (with_unfolding_all refine wpAny_call (refused_Q w (Gr.pushX G B F3 rfl rfl (by decide) (by decide)) (N3 _ (.head _)).1 rfl (fun A2 l2 s2 R2 G2 hk2 hR2 => lamN_R w G2 (hk2 _ _ (N3 _ (.head _)).1) rfl (hcr'.keeps hk2) ⟨oN, hk2 _ _ (N3 (L + 1 + 1, oN) (.tail _ (.tail _ (.head _)))).1, dN⟩ hn hR2) (fun a nx t1 t2 h2 tk2 TT ha1 ha2 => ?_))) | (with_unfolding_all refine wpAny_call (refused_Q w (Gr.pushX G B F3 rfl rfl (by decide) (by decide)) (N3 _ (.head _)).1 rfl (fun A2 l2 s2 R2 G2 hk2 hR2 => lamV_R w G2 (hk2 _ _ (N3 _ (.head _)).1) rfl (hcr2.keeps hk2) ⟨oN, hk2 _ _ (N3 (L + 1 + 1, oN) (.tail _ (.tail _ (.tail _ (.tail _ (.head _)))))).1, dN⟩ hn hR2) (fun a nx t1 t2 h2 tk2 TT ha1 ha2 => ?_)))); (try dsimp only); (obtain ⟨g2, T2, F4, N4, B4⟩ := turned B F3 N3 rfl TT); (with_unfolding_all have X4 := G.K.keeps B4.stays); (with_unfolding_all have T4 := G.top.keeps B4.stays); (have N5 := News.more F4 N4 ha2 (fun es n q => by cases q) (T2.none_ _ (kts_none F3.keep ha1))); (have ln := allNe_new ha1 N3); (simp only [AllNe, and_true] at ln); clear F3 N3 N4 B X T; (have B := B4); (have X := X4); (have T := T4); clear B4 X4 T4; (try dsimp only))) | ((with_reducible show wpAny _ _ (eval (Expr.Lambda ..) _) _ _ _); first | (with_reducible ((rename Fr _ _ _ _ => F3); (rename News _ _ _ _ => N3); first | ((with_unfolding_all refine' lam_make (pre := [(L + 1 + 1 + 1, oS), (L + 1 + 1, oN), (L + 1, oD), (b, ob), (c, oc), (174, o1), (179, _)]) F3 N3 T (cd2.keeps B.stays) rfl ?U I hsub ?hP ?hdef ?hq ?hcl ?_); (with_unfolding_all (case U => k_updF)); (with_unfolding_all (case hP => exact fun q hq => (hnt q hq).2.2.2.1)); (with_unfolding_all (case hdef => exact rfl)); (with_unfolding_all (case hq => exact rfl)); (with_unfolding_all (case hcl => exact rfl)); clear I; (intro f' c' ctv' ps' ce' h' tk' F' N' hcr' I lce' l1'); (replace hnt := hnt_app hnt lce' (.head _) (.tail _ (.head _)) (.tail _ (.tail _ (.head _))) (.tail _ (.tail _ (.tail _ (.head _)))) (.tail _ (.tail _ (.tail _ (.tail _ (.head _))))) (.tail _ (.tail _ (.tail _ (.tail _ (.tail _ (.head _)))))) (.tail _ (.tail _ (.tail _ (.tail _ (.tail _ (.tail _ (.head _)))))))); (replace hsub := app_sub (ce := ce') hsub); (try dsimp only [List.cons_append, List.nil_append] at N'); (simp only [List.cons_append, List.nil_append] at l1'); (k_lt l1'); clear F3 N3) | ((with_unfolding_all refine' lam_make (pre := [_, _, (L + 1 + 1 + 1, oS), (L + 1 + 1, oN), (L + 1, oD), (b, ob), (c, oc), (174, o1), (179, _)]) F3 N3 T (cd2.keeps B.stays) rfl ?U I hsub ?hP ?hdef ?hq ?hcl ?_); (with_unfolding_all (case U => k_updF)); (with_unfolding_all (case hP => exact fun q hq => (hnt q hq).2.2.2.1)); (with_unfolding_all (case hdef => exact rfl)); (with_unfolding_all (case hq => exact rfl)); (with_unfolding_all (case hcl => exact rfl)); clear I; (intro f2 c2 ctv2 ps2 ce2 h' tk' F' N' hcr2 I lce2 l1'); (replace hnt := hnt_app hnt lce2 (.tail _ (.tail _ (.head _))) (.tail _ (.tail _ (.tail _ (.head _)))) (.tail _ (.tail _ (.tail _ (.tail _ (.head _))))) (.tail _ (.tail _ (.tail _ (.tail _ (.tail _ (.head _)))))) (.tail _ (.tail _ (.tail _ (.tail _ (.tail _ (.tail _ (.head _))))))) (.tail _ (.tail _ (.tail _ (.tail _ (.tail _ (.tail _ (.tail _ (.head _)))))))) (.tail _ (.tail _ (.tail _ (.tail _ (.tail _ (.tail _ (.tail _ (.tail _ (.head _)))))))))); (replace hsub := app_sub (ce := ce2) hsub); (try dsimp only [List.cons_append, List.nil_append] at N'); (simp only [List.cons_append, List.nil_append] at l1'); (k_lt l1'); clear F3 N3))) | ((rename Fr _ _ _ _ => F3); (rename News _ _ _ _ => N3); first | ((with_unfolding_all refine' lam_make (pre := [(L + 1 + 1 + 1, oS), (L + 1 + 1, oN), (L + 1, oD), (b, ob), (c, oc), (174, o1), (179, _)]) F3 N3 T (cd2.keeps B.stays) rfl ?U I hsub ?hP ?hdef ?hq ?hcl ?_); (with_unfolding_all (case U => k_updF)); (with_unfolding_all (case hP => exact fun q hq => (hnt q hq).2.2.2.1)); (with_unfolding_all (case hdef => exact rfl)); (with_unfolding_all (case hq => exact rfl)); (with_unfolding_all (case hcl => exact rfl)); clear I; (intro f' c' ctv' ps' ce' h' tk' F' N' hcr' I lce' l1'); (replace hnt := hnt_app hnt lce' (.head _) (.tail _ (.head _)) (.tail _ (.tail _ (.head _))) (.tail _ (.tail _ (.tail _ (.head _)))) (.tail _ (.tail _ (.tail _ (.tail _ (.head _))))) (.tail _ (.tail _ (.tail _ (.tail _ (.tail _ (.head _)))))) (.tail _ (.tail _ (.tail _ (.tail _ (.tail _ (.tail _ (.head _)))))))); (replace hsub := app_sub (ce := ce') hsub); (try dsimp only [List.cons_append, List.nil_append] at N'); (simp only [List.cons_append, List.nil_append] at l1'); (k_lt l1'); clear F3 N3) | ((with_unfolding_all refine' lam_make (pre := [_, _, (L + 1 + 1 + 1, oS), (L + 1 + 1, oN), (L + 1, oD), (b, ob), (c, oc), (174, o1), (179, _)]) F3 N3 T (cd2.keeps B.stays) rfl ?U I hsub ?hP ?hdef ?hq ?hcl ?_); (with_unfolding_all (case U => k_updF)); (with_unfolding_all (case hP => exact fun q hq => (hnt q hq).2.2.2.1)); (with_unfolding_all (case hdef => exact rfl)); (with_unfolding_all (case hq => exact rfl)); (with_unfolding_all (case hcl => exact rfl)); clear I; (intro f2 c2 ctv2 ps2 ce2 h' tk' F' N' hcr2 I lce2 l1'); (replace hnt := hnt_app hnt lce2 (.tail _ (.tail _ (.head _))) (.tail _ (.tail _ (.tail _ (.head _)))) (.tail _ (.tail _ (.tail _ (.tail _ (.head _))))) (.tail _ (.tail _ (.tail _ (.tail _ (.tail _ (.head _)))))) (.tail _ (.tail _ (.tail _ (.tail _ (.tail _ (.tail _ (.head _))))))) (.tail _ (.tail _ (.tail _ (.tail _ (.tail _ (.tail _ (.tail _ (.head _)))))))) (.tail _ (.tail _ (.tail _ (.tail _ (.tail _ (.tail _ (.tail _ (.tail _ (.head _)))))))))); (replace hsub := app_sub (ce := ce2) hsub); (try dsimp only [List.cons_append, List.nil_append] at N'); (simp only [List.cons_append, List.nil_append] at l1'); (k_lt l1'); clear F3 N3))) | walk1 | (dsimp only; walk1) | (leave1; (try dsimp only)) | fail "no step"))
  rename Fr _ _ _ _ => F9
  rename News _ _ _ _ => N9
  refine hQ _ (ce2 ++ ce') ps2 _ _ ⟨F9, fun p hp => ?_, B, X, T, ⟨l1, l2⟩, hne, ⟨_, _, G⟩, cd1, cd2, ?_⟩ ?_ ?_
  · refine N9 p (.tail _ (.tail _ (.tail _ (.tail _ (.tail _ (.tail _ (.tail _ (.tail _ (mem8 (l := (ce2 ++ ce') ++ nt) (fun q => ?_) hp)))))))))
    rw [List.append_assoc] at q
    exact q
  · rw [List.append_assoc]
    exact hnt
  · rw [List.append_assoc]
    exact I
  · intro p hp q hq
    rcases List.mem_append.mp hp with hp | hp
    · exact lce2 p hp q (List.mem_append_right _ (List.mem_append_right _ hq))
    · exact lce' p hp q (List.mem_append_right _ hq)
end Mine
end

section
open PySem PySem.W PySem.Spec PySem.Calls PyProof.Rows
set_option maxRecDepth 100000
set_option maxHeartbeats 8000000
namespace Mine
noncomputable abbrev Big (n : Int) : Prop := n < 0 ∨ 4611686018427387904 ≤ n
noncomputable abbrev lwTgt5 : PySem.Expr := forTgt (stAt lawBody 5)
noncomputable abbrev lwIter5 : PySem.Expr := forIter (stAt lawBody 5)
theorem lwLoop5_is : lwLoop5 = [stAt lwLoop5 0] := by with_unfolding_all rfl
theorem lwAssign5 (w : World) {mean : ExcName → Option Value} {mg mb : Str → Option Value} {gd : Option (List Code)} {base g : Heap} {s : Shared} {L b c : Addr} {m : Str → Option Value} {Q : Unit → Shared → Prop} {E : Value → Shared → Prop} {oD oN oS ob oc o1 o2 : Obj} {nt : List (Addr × Obj)} {x : Int} {tx : Tok}
  (H : LwAt w mean mg mb gd base g L b c oD oN oS ob oc o1 o2 nt m s.heap) {cv : Option Value} (dN : oN.data = .cell cv)
  (hQ : ∀ oN' tn h' tk', oN'.data = .cell (some (.int x tn)) → LwAt w mean mg mb gd base g L b c oD oN' oS ob oc o1 o2 nt m h' → Q () { s with heap := h', toks := tk' }) :
  wpAny (model PySem.Challenge.rw_no0060_01.row.prog w) ((zA 352 172 [] gd).deeper (lawEnv L)) (assign lwTgt5 (lawEnv L) (.int x tx)) Q E s := by
  have hfill : (Mine.hd.heap_1 w.params).In g → PySem.Challenge.rw_no0060_01 = PySem.Challenge.rw_no0060_01 := by k_fill; intro _; rfl
  clear hfill
  obtain ⟨F, N, B, X, T, ⟨l1, l2⟩, hne, ⟨A', s₀, G⟩, cd1, cd2, hnt⟩ := H
  obtain ⟨S, hS⟩ : ∃ S, S = lawScope := ⟨_, rfl⟩
  obtain ⟨st, hst⟩ : ∃ S, S = lwTgt5 := ⟨_, rfl⟩
  unfold lawEnv
  rw [← hS, ← hst]
  conv at hS => rhs; whnf
  conv at hst => rhs; whnf
  subst hS hst
  obtain ⟨n1, n2, n3, n4, n5, n6, n7, n8, n9, n10, n11⟩ := id hne
  dsimp only [NeN] at n1 n2 n3 n4 n5 n6 n7 n8 n9 n10 n11
  (repeat' (first | (k_unfold; (try dsimp only)) | (k_end; wrow_close) | ((with_reducible show wpAny _ _ (binaryOp Operator.Pow (Value.int _ _) (Value.int _ _)) _ _ _); first | (with_reducible ((with_reducible refine pow_two (by decide) (by decide) ?_))) | ((with_reducible refine pow_two (by decide) (by decide) ?_))) | walk1 | (dsimp only; walk1) | (leave1; (try dsimp only)) | fail "no step"))
  rename Fr _ _ _ _ => F9
  rename News _ _ _ _ => N9
  rename _ = Data.cell (some (Value.int _ _)) => d9
  exact hQ _ _ _ _ d9 ⟨F9, N9, B, X, T, ⟨l1, l2⟩, hne, ⟨_, _, G⟩, cd1, cd2, hnt⟩
theorem lwIterE5 (w : World) {mean : ExcName → Option Value} {mg mb : Str → Option Value} {gd : Option (List Code)} {base g : Heap} {s : Shared} {L b c : Addr} {m : Str → Option Value} {Q : Value → Shared → Prop} {E : Value → Shared → Prop} {oD oN oS ob oc o1 o2 : Obj} {nt : List (Addr × Obj)}
  (H : LwAt w mean mg mb gd base g L b c oD oN oS ob oc o1 o2 nt m s.heap) {t : Sem Value} (ht : t = eval lwIter5 (lawEnv L))
  (hQ : ∀ ao v1 v2 v3 t1 t2 t3 n h' tk', Big v1 → Big v2 → Big v3 → LwAt w mean mg mb gd base g L b c oD oN oS ob oc o1 o2 ((ao, ({ cls := .type "tuple", data := .seq #[.int v1 t1, .int v2 t2, .int v3 t3] n } : Obj)) :: nt) m h' → Q (.ref ao) { s with heap := h', toks := tk' }) :
  wpAny (model PySem.Challenge.rw_no0060_01.row.prog w) ((zA 352 172 [] gd).deeper (lawEnv L)) t Q E s := by
  subst ht
  have hfill : (Mine.hd.heap_1 w.params).In g → PySem.Challenge.rw_no0060_01 = PySem.Challenge.rw_no0060_01 := by k_fill; intro _; rfl
  clear hfill
  obtain ⟨F, N, B, X, T, ⟨l1, l2⟩, hne, ⟨A', s₀, G⟩, cd1, cd2, hnt⟩ := H
  obtain ⟨S, hS⟩ : ∃ S, S = lawScope := ⟨_, rfl⟩
  obtain ⟨st, hst⟩ : ∃ S, S = lwIter5 := ⟨_, rfl⟩
  unfold lawEnv
  rw [← hS, ← hst]
  conv at hS => rhs; whnf
  conv at hst => rhs; whnf
  subst hS hst
  (repeat' (first | (k_unfold; (try dsimp only)) | (k_end; wrow_close) | ((with_reducible show wpAny _ _ (binaryOp Operator.Pow (Value.int _ _) (Value.int _ _)) _ _ _); first | (with_reducible ((with_reducible refine pow_two (by decide) (by decide) ?_))) | ((with_reducible refine pow_two (by decide) (by decide) ?_))) | walk1 | (dsimp only; walk1) | (leave1; (try dsimp only)) | fail "no step"))
  rename Fr _ _ _ _ => F9
  rename News _ _ _ _ => N9
  refine hQ _ _ _ _ _ _ _ _ _ _ (by decide) (by decide) (by decide) ⟨F9, fun p hp => N9 p (mem_swap (a := [_]) (b := [_, _, _, _, _, _, _]) hp), B, X, T, ⟨l1, l2⟩, hne, ⟨_, _, G⟩, cd1, cd2, fun p hp => ?_⟩
  rcases List.mem_cons.mp hp with rfl | hp
  · dsimp only [NeN]
    omega
  · exact hnt p hp
/-- law's second loop stands before its turn i -/
noncomputable def LrAt (w : World) (mean : ExcName → Option Value) (mg mb : Str → Option Value) (gd : Option (List Code)) (base : Heap) (L b c it ao : Addr) (oD oS ob oc o1 : Obj) (m : Str → Option Value) (nt nt2 : List (Addr × Obj)) (i : Nat) (h : Heap) : Prop :=
  ∃ g oN cv ps ce oI, LwAt w mean mg mb gd base g L b c oD oN oS ob oc o1 (tabObj ps) ((it, oI) :: (ce ++ nt)) m h ∧
    oN.data = .cell cv ∧ h.IsTupleIter it ao i ∧ TabI lawQ ps (ce ++ nt2) ∧ (∀ p ∈ ce, @LT.lt Nat _ it p.1)
theorem lwLoopC5 (w : World) {mean : ExcName → Option Value} {mg mb : Str → Option Value} {gd : Option (List Code)} {base : Heap} {s : Shared} {L b c it ao : Addr} {oD oS ob oc o1 : Obj} {m : Str → Option Value} {n : Nat} {its : Array Value} {nt nt2 : List (Addr × Obj)} {R : Result → Shared → Prop}
  (hao : (ao, ({ cls := .type "tuple", data := .seq its n } : Obj)) ∈ nt) (hsz : its.size = 3) (hits : ∀ i < 3, ∃ v t, its[i]? = some (.int v t) ∧ Big v)
  (hne : ∀ p ∈ nt, @Ne Nat p.1 it) (hsub : ∀ p ∈ nt2, p ∈ nt)
  (hR : ∀ g oN cv ps ce h tk, LwAt w mean mg mb gd base g L b c oD oN oS ob oc o1 (tabObj ps) (ce ++ nt) m h → oN.data = .cell cv → TabI lawQ ps (ce ++ nt2) → R (.ok .next) { s with heap := h, toks := tk })
  {cc : Code} (hcc : cc = .forLoop lwTgt5 (.ref it) lwLoop5 [] (lawEnv L)) : ∀ j i h tk, j + i = 3 → LrAt w mean mg mb gd base L b c it ao oD oS ob oc o1 m nt nt2 i h →
    codeC (model PySem.Challenge.rw_no0060_01.row.prog w) ((zA 352 172 [] gd).deeper (lawEnv L)) cc R { s with heap := h, toks := tk } := by
  subst hcc
  intro j
  induction j with
  | zero =>
    intro i h tk hj S
    obtain ⟨g, oN, cv, ps, ce, oI, H, dN, hI, TI, hce⟩ := S
    have hi4 : i = 3 := by omega
    subst hi4
    have hneall : ∀ p ∈ ce ++ nt, @Ne Nat p.1 it := fun p hp => by
      rcases List.mem_append.mp hp with hp | hp
      · exact Nat.ne_of_gt (hce p hp)
      · exact hne p hp
    have zt := H.get (.tail _ (List.mem_append_right _ hao))
    refine forLoop_C (wpAny_pyNext_tuple_end rfl hI ⟨_, zt.1, rfl, _, rfl⟩ (Array.getElem?_eq_none (by omega)) fun h' hs => ?_)
    exact execs_nilC (hR g oN cv ps ce h' tk (H.extBut hs hneall) dN TI)
  | succ j ih =>
    intro i h tk hj S
    obtain ⟨g, oN, cv, ps, ce, oI, H, dN, hI, TI, hce⟩ := S
    have hneall : ∀ p ∈ ce ++ nt, @Ne Nat p.1 it := fun p hp => by
      rcases List.mem_append.mp hp with hp | hp
      · exact Nat.ne_of_gt (hce p hp)
      · exact hne p hp
    have zt := H.get (.tail _ (List.mem_append_right _ hao))
    obtain ⟨v, t, hx, hv⟩ := hits i (by omega)
    refine forLoop_C (wpAny_pyNext_tuple_item hI ⟨_, zt.1, rfl, _, rfl⟩ hx fun h' hI' hs => ?_)
    obtain ⟨oI', hoI', r2⟩ := id hI'
    have H2 := H.iter hs.extBut hoI' hneall
    refine wpAny_of_eq (a := ()) rfl ?_
    refine lwAssign5 w H2 dN fun oN' tn h2 tk2 dN' H3 => ?_
    have hsub' : ∀ q ∈ ce ++ nt2, q ∈ (it, oI') :: (ce ++ nt) := fun q hq => .tail _ (app_sub hsub q hq)
    rw [lwLoop5_is]
    refine execs_C (wpC_any (lwT5 w H3 dN' hv TI hsub' fun g' ce' ps' h3 tk3 H4 TI' hce' => ?_))
    refine execs_nilC ?_
    refine ih (i + 1) h3 tk3 (by omega) ?_
    have zi := H4.get (p := (it, oI')) (List.mem_append_right _ (.head _))
    refine ⟨g', oN', _, ps', ce' ++ ce, oI', H4.tail fun p hp => ?_, dN', ⟨oI', zi.1, r2⟩, ?_, fun p hp => ?_⟩
    · rcases List.mem_cons.mp hp with rfl | hp
      · exact List.mem_append_right _ (.head _)
      · rcases List.mem_append.mp hp with hp | hp
        · rcases List.mem_append.mp hp with hp | hp
          · exact List.mem_append_left _ hp
          · exact List.mem_append_right _ (.tail _ (List.mem_append_left _ hp))
        · exact List.mem_append_right _ (.tail _ (List.mem_append_right _ hp))
    · rw [List.append_assoc]
      exact TI'
    · rcases List.mem_append.mp hp with hp | hp
      · exact hce' p hp (it, oI') (.head _)
      · exact hce p hp
/-- law's second loop -/
theorem lwS5 (w : World) {mean : ExcName → Option Value} {mg mb : Str → Option Value} {gd : Option (List Code)} {base g : Heap} {s : Shared} {L b c : Addr} {m : Str → Option Value} {Q : Flow → Shared → Prop} {oD oN oS ob oc o1 : Obj} {nt nt2 : List (Addr × Obj)} {ps : Array Value} {cv : Option Value}
  (H : LwAt w mean mg mb gd base g L b c oD oN oS ob oc o1 (tabObj ps) nt m s.heap) (dN : oN.data = .cell cv) (I : TabI lawQ ps nt2) (hsub : ∀ q ∈ nt2, q ∈ nt)
  (hQ : ∀ g' oN' cv' ps' ce h' tk', LwAt w mean mg mb gd base g' L b c oD oN' oS ob oc o1 (tabObj ps') (ce ++ nt) m h' → oN'.data = .cell cv' → TabI lawQ ps' (ce ++ nt2) → Q .next { s with heap := h', toks := tk' })
  {t : Sem Flow} (ht : t = exec (stAt lawBody 5) (lawEnv L)) : wpC (model PySem.Challenge.rw_no0060_01.row.prog w) ((zA 352 172 [] gd).deeper (lawEnv L)) t Q NoE s := by
  subst ht
  have eq : stAt lawBody 5 = .For lwTgt5 lwIter5 lwLoop5 [] (forPos (stAt lawBody 5)) := by with_unfolding_all rfl
  rw [eq]
  refine @For_C _ _ _ _ _ _ _ _ _ _ _ ?_ (by intro _; with_unfolding_all rfl)
  obtain ⟨ti, hti⟩ : ∃ t, t = eval lwIter5 (lawEnv L) := ⟨_, rfl⟩
  rw [← hti]
  refine lwIterE5 w H (ht := hti) fun ao v1 v2 v3 t1 t2 t3 n h' tk' b1 b2 b3 H2 => ?_
  have zt := H2.get (.head _)
  refine wpAny_pyIter_tuple ⟨_, zt.1, rfl, _, rfl⟩ ?_
  obtain ⟨cc, hcc⟩ : ∃ c, c = Code.forLoop lwTgt5 (.ref h'.objs.size) lwLoop5 [] (lawEnv L) := ⟨_, rfl⟩
  rw [← hcc]
  have H3 := H2.push (o := { cls := .type "tuple_iterator", data := .fields #[.ref ao, .int 0 0] }) rfl (fun es n q => by cases q)
  refine lwLoopC5 w (s := s) (nt := (ao, ({ cls := .type "tuple", data := .seq #[.int v1 t1, .int v2 t2, .int v3 t3] n } : Obj)) :: nt) (nt2 := nt2) (m := m) (mean := mean) (mg := mg) (mb := mb) (base := base) (oD := oD) (oS := oS) (ob := ob) (oc := oc) (o1 := o1) (b := b) (c := c) (.head _) rfl ?_ (fun p hp => Nat.ne_of_lt (Heap.lt_size (H2.get hp).1)) (fun p hp => .tail _ (hsub p hp)) ?_ hcc 3 0 _ tk' rfl
    ⟨g, oN, cv, ps, [], _, H3, dN, ⟨_, Heap.get?_push_size _ rfl, rfl, rfl⟩, I, fun p hp => nomatch hp⟩
  · intro i hi
    have hc : i = 0 ∨ i = 1 ∨ i = 2 := by omega
    rcases hc with rfl | rfl | rfl
    · exact ⟨_, _, rfl, b1⟩
    · exact ⟨_, _, rfl, b2⟩
    · exact ⟨_, _, rfl, b3⟩
  · intro g' oN' cv' ps' ce h2 tk2 H4 dN' TI
    refine hQ g' oN' cv' ps' ce h2 tk2 (H4.tail fun p hp => ?_) dN' TI
    rcases List.mem_append.mp hp with hp | hp
    · exact List.mem_append_left _ hp
    · exact List.mem_append_right _ (.tail _ hp)
end Mine
end

section
open PySem PySem.W PySem.Spec PySem.Calls PyProof.Rows
set_option maxRecDepth 100000
set_option maxHeartbeats 8000000
namespace Mine
theorem lwS67 (w : World) {mean : ExcName → Option Value} {mg mb : Str → Option Value} {gd : Option (List Code)} {base g : Heap} {s : Shared} {L b c e : Addr} {m : Str → Option Value} {Q : Flow → Shared → Prop} {E : Value → Shared → Prop} {oD oN oS o1 o2 : Obj} {nt : List (Addr × Obj)} {k r gr : Int} {tk tr tg : Tok} {nb nc : Nat} {vs : List Value} {ns : List Int} {cn cs : Option Value}
  (H : LwAt w mean mg mb gd base g L b c oD oN oS (boxO c k r tk tr nb) (listOf vs.toArray nc) o1 o2 nt (lwM3 gr tg b e m) s.heap)
  (dN : oN.data = .cell cn) (dS : oS.data = .cell cs)
  (hi : IntsAre vs ns) (h0 : ∀ x ∈ ns, 0 ≤ x) (hlen : ns.length ≤ 24) (k0 : 0 ≤ k) (k1 : k < 2 ^ 30) (r0 : 0 ≤ r) (r1 : r < 2 ^ 40)
  (hQ : ∀ oN' oS' tn ts (size : Int) ob' h' tk', 1 ≤ size → size ≤ 5 → oN'.data = .cell (some (.int (gr.fmod (256 ^ size.toNat)) tn)) → oS'.data = .cell (some (.int size ts)) → LwAt w mean mg mb gd base g L b c oD oN' oS' ob' (listOf vs.toArray nc) o1 o2 nt (lwM3 gr tg b e m) h' → Q .next { s with heap := h', toks := tk' }) :
  wpAny (model PySem.Challenge.rw_no0060_01.row.prog w) ((zA 352 172 [] gd).deeper (lawEnv L)) (execs [stAt lawBody 6, stAt lawBody 7] (lawEnv L)) Q E s := by
  have hfill : (Mine.hd.heap_1 w.params).In g → PySem.Challenge.rw_no0060_01 = PySem.Challenge.rw_no0060_01 := by k_fill; intro _; rfl
  clear hfill
  obtain ⟨F, N, B, X, T, ⟨l1, l2⟩, hne, ⟨A', s₀, G⟩, cd1, cd2, hnt⟩ := H
  obtain ⟨S, hS⟩ : ∃ S, S = lawScope := ⟨_, rfl⟩
  obtain ⟨st6, hst6⟩ : ∃ S, S = stAt lawBody 6 := ⟨_, rfl⟩
  obtain ⟨st7, hst7⟩ : ∃ S, S = stAt lawBody 7 := ⟨_, rfl⟩
  unfold lawEnv
  rw [← hS, ← hst6, ← hst7]
  conv at hS => rhs; whnf
  conv at hst6 => rhs; whnf
  conv at hst7 => rhs; whnf
  subst hS hst6 hst7
  obtain ⟨n1, n2, n3, n4, n5, n6, n7, n8, n9, n10, n11⟩ := id hne
  dsimp only [NeN] at n1 n2 n3 n4 n5 n6 n7 n8 n9 n10 n11
  (repeat' (first | (k_unfold; (try dsimp only)) | (k_end; wrow_close) | ((with_reducible show wpAny _ _ (call (Value.ref 158) _) _ _ _); first | (with_reducible ((with_unfolding_all refine' take_K ?B ?F ?X ?N ?T ?hk ?hb ?hc hi h0 n1 hlen ?k0 ?k1 r0 r1 ?m0 ?m1 ?hd ?hu ?U ?_; (case hk => exact rfl); (case B => k_asm); (case F => k_asm); (case X => k_asm); (case N => k_asm); (case T => k_asm); (case hb => k_mem); (case hc => k_mem); (case k0 => omega); (case k1 => omega); (case m0 => omega); (case m1 => omega); (case hd => exact (by decide : 352 + 1 + 5 < recursionLimit)); (case hu => exact (by decide : 172 + 3 + 20 < cLine)); (case U => k_updF)); k_whole; (intro v' t' t2' h' tk' v0' v1' F' N'); (try dsimp only at N'); (try k_sweep))) | ((with_unfolding_all refine' take_K ?B ?F ?X ?N ?T ?hk ?hb ?hc hi h0 n1 hlen ?k0 ?k1 r0 r1 ?m0 ?m1 ?hd ?hu ?U ?_; (case hk => exact rfl); (case B => k_asm); (case F => k_asm); (case X => k_asm); (case N => k_asm); (case T => k_asm); (case hb => k_mem); (case hc => k_mem); (case k0 => omega); (case k1 => omega); (case m0 => omega); (case m1 => omega); (case hd => exact (by decide : 352 + 1 + 5 < recursionLimit)); (case hu => exact (by decide : 172 + 3 + 20 < cLine)); (case U => k_updF)); k_whole; (intro v' t' t2' h' tk' v0' v1' F' N'); (try dsimp only at N'); (try k_sweep))) | walk1 | (dsimp only; walk1) | (leave1; (try dsimp only)) | fail "no step"))
  rename Fr _ _ _ _ => F9
  rename News _ _ _ _ => N9
  rename _ = Data.cell (some (Value.int (gr.fmod _) _)) => dN9
  rename _ = Data.cell (some (Value.int (1 + v') _)) => dS9
  exact hQ _ _ _ _ (1 + v') _ _ _ (by omega) (by omega) dN9 dS9 ⟨F9, N9, B, X, T, ⟨l1, l2⟩, hne, ⟨_, _, G⟩, cd1, cd2, hnt⟩
theorem lwS8 (w : World) {mean : ExcName → Option Value} {mg mb : Str → Option Value} {gd : Option (List Code)} {base g : Heap} {s : Shared} {L b c : Addr} {m : Str → Option Value} {Q : Flow → Shared → Prop} {oD oN oS ob oc o1 o2 : Obj} {nt : List (Addr × Obj)} {n size : Int} {tn ts : Tok} {cd : Option Value}
  (H : LwAt w mean mg mb gd base g L b c oD oN oS ob oc o1 o2 nt m s.heap)
  (dD : oD.data = .cell cd) (dN : oN.data = .cell (some (.int n tn))) (dS : oS.data = .cell (some (.int size ts))) (hs1 : 1 ≤ size) (hs5 : size ≤ 5) (hn0 : 0 ≤ n) (hn1 : n < 256 ^ size.toNat)
  (hQ : ∀ oD' d td h' tk', KBw.bInts d = dig n size.toNat → oD'.data = .cell (some (.bytes d td)) → LwAt w mean mg mb gd base g L b c oD' oN oS ob oc o1 o2 nt m h' → Q .next { s with heap := h', toks := tk' }) :
  wpC (model PySem.Challenge.rw_no0060_01.row.prog w) ((zA 352 172 [] gd).deeper (lawEnv L)) (exec (stAt lawBody 8) (lawEnv L)) Q NoE s := by
  have hfill : (Mine.hd.heap_1 w.params).In g → PySem.Challenge.rw_no0060_01 = PySem.Challenge.rw_no0060_01 := by k_fill; intro _; rfl
  clear hfill
  obtain ⟨F, N, B, X, T, ⟨l1, l2⟩, hne, ⟨A', s₀, G⟩, cd1, cd2, hnt⟩ := H
  obtain ⟨S, hS⟩ : ∃ S, S = lawScope := ⟨_, rfl⟩
  obtain ⟨st8, hst8⟩ : ∃ S, S = stAt lawBody 8 := ⟨_, rfl⟩
  unfold lawEnv
  rw [← hS, ← hst8]
  conv at hS => rhs; whnf
  conv at hst8 => rhs; whnf
  subst hS hst8
  obtain ⟨n1, n2, n3, n4, n5, n6, n7, n8, n9, n10, n11⟩ := id hne
  dsimp only [NeN] at n1 n2 n3 n4 n5 n6 n7 n8 n9 n10 n11
  refine' AssignName_C (Call_C ?_) ?hs
  case hs => rfl
  (repeat' (first | (k_unfold; (try dsimp only)) | (k_end; wrow_close) | ((with_reducible show wpAny _ _ (call (Value.ref 158) _) _ _ _); first | (with_reducible ((with_unfolding_all refine' take_K ?B ?F ?X ?N ?T ?hk ?hb ?hc hi h0 n1 hlen ?k0 ?k1 r0 r1 ?m0 ?m1 ?hd ?hu ?U ?_; (case hk => exact rfl); (case B => k_asm); (case F => k_asm); (case X => k_asm); (case N => k_asm); (case T => k_asm); (case hb => k_mem); (case hc => k_mem); (case k0 => omega); (case k1 => omega); (case m0 => omega); (case m1 => omega); (case hd => exact (by decide : 352 + 1 + 5 < recursionLimit)); (case hu => exact (by decide : 172 + 3 + 20 < cLine)); (case U => k_updF)); k_whole; (intro v' t' t2' h' tk' v0' v1' F' N'); (try dsimp only at N'); (try k_sweep))) | ((with_unfolding_all refine' take_K ?B ?F ?X ?N ?T ?hk ?hb ?hc hi h0 n1 hlen ?k0 ?k1 r0 r1 ?m0 ?m1 ?hd ?hu ?U ?_; (case hk => exact rfl); (case B => k_asm); (case F => k_asm); (case X => k_asm); (case N => k_asm); (case T => k_asm); (case hb => k_mem); (case hc => k_mem); (case k0 => omega); (case k1 => omega); (case m0 => omega); (case m1 => omega); (case hd => exact (by decide : 352 + 1 + 5 < recursionLimit)); (case hu => exact (by decide : 172 + 3 + 20 < cLine)); (case U => k_updF)); k_whole; (intro v' t' t2' h' tk' v0' v1' F' N'); (try dsimp only at N'); (try k_sweep))) | walk1 | (dsimp only; walk1) | (leave1; (try dsimp only)) | fail "no step"))
  rename Fr _ _ _ _ => F3
  rename News _ _ _ _ => N3
  refine CallC.of (X.keeps F3.keep) (by kernel_rfl) rfl (wpC_call (pw_C w (Gr.pushX G B F3 rfl rfl (by decide) (by decide)) hs1 (by omega) hn0 hn1 fun b1 tb1 h1 tk1 hb1 hk1 hz1 => ?_))
  have F4 := F3.keeps hk1
  have N4 := N3.grown hk1
  clear F3 N3
  dsimp only
  (repeat' (first | (k_unfold; (try dsimp only)) | (k_end; wrow_close) | ((with_reducible show wpAny _ _ (call (Value.ref 158) _) _ _ _); first | (with_reducible ((with_unfolding_all refine' take_K ?B ?F ?X ?N ?T ?hk ?hb ?hc hi h0 n1 hlen ?k0 ?k1 r0 r1 ?m0 ?m1 ?hd ?hu ?U ?_; (case hk => exact rfl); (case B => k_asm); (case F => k_asm); (case X => k_asm); (case N => k_asm); (case T => k_asm); (case hb => k_mem); (case hc => k_mem); (case k0 => omega); (case k1 => omega); (case m0 => omega); (case m1 => omega); (case hd => exact (by decide : 352 + 1 + 5 < recursionLimit)); (case hu => exact (by decide : 172 + 3 + 20 < cLine)); (case U => k_updF)); k_whole; (intro v' t' t2' h' tk' v0' v1' F' N'); (try dsimp only at N'); (try k_sweep))) | ((with_unfolding_all refine' take_K ?B ?F ?X ?N ?T ?hk ?hb ?hc hi h0 n1 hlen ?k0 ?k1 r0 r1 ?m0 ?m1 ?hd ?hu ?U ?_; (case hk => exact rfl); (case B => k_asm); (case F => k_asm); (case X => k_asm); (case N => k_asm); (case T => k_asm); (case hb => k_mem); (case hc => k_mem); (case k0 => omega); (case k1 => omega); (case m0 => omega); (case m1 => omega); (case hd => exact (by decide : 352 + 1 + 5 < recursionLimit)); (case hu => exact (by decide : 172 + 3 + 20 < cLine)); (case U => k_updF)); k_whole; (intro v' t' t2' h' tk' v0' v1' F' N'); (try dsimp only at N'); (try k_sweep))) | walk1 | (dsimp only; walk1) | (leave1; (try dsimp only)) | fail "no step"))
  rename Fr _ _ _ _ => F9
  rename News _ _ _ _ => N9
  rename _ = Data.cell (some (Value.bytes _ _)) => dD9
  exact hQ _ _ _ _ _ hb1 dD9 ⟨F9, N9, B, X, T, ⟨l1, l2⟩, hne, ⟨_, _, G⟩, cd1, cd2, hnt⟩
theorem lwS9 (w : World) {mean : ExcName → Option Value} {mg mb : Str → Option Value} {gd : Option (List Code)} {base g : Heap} {s : Shared} {L b c : Addr} {m : Str → Option Value} {Q : Flow → Shared → Prop} {E : Value → Shared → Prop} {oD oN oS ob oc o1 o2 : Obj} {nt : List (Addr × Obj)} {n size : Int} {tn ts td : Tok} {d : Array UInt8} {ks : List Int}
  (H : LwAt w mean mg mb gd base g L b c oD oN oS ob oc o1 o2 nt m s.heap)
  (dD : oD.data = .cell (some (.bytes d td))) (dN : oN.data = .cell (some (.int n tn))) (dS : oS.data = .cell (some (.int size ts))) (hs1 : 1 ≤ size) (hs5 : size ≤ 5) (hb : KBw.bInts d = ks) (hl : (ks.length : Int) = size) (hv : bv ks = n)
  (hQ : ∀ h' tk', LwAt w mean mg mb gd base g L b c oD oN oS ob oc o1 o2 nt m h' → Q .next { s with heap := h', toks := tk' }) :
  wpAny (model PySem.Challenge.rw_no0060_01.row.prog w) ((zA 352 172 [] gd).deeper (lawEnv L)) (exec (stAt lawBody 9) (lawEnv L)) Q E s := by
  have hfill : (Mine.hd.heap_1 w.params).In g → PySem.Challenge.rw_no0060_01 = PySem.Challenge.rw_no0060_01 := by k_fill; intro _; rfl
  clear hfill
  obtain ⟨F, N, B, X, T, ⟨l1, l2⟩, hne, ⟨A', s₀, G⟩, cd1, cd2, hnt⟩ := H
  obtain ⟨S, hS⟩ : ∃ S, S = lawScope := ⟨_, rfl⟩
  obtain ⟨st9, hst9⟩ : ∃ S, S = stAt lawBody 9 := ⟨_, rfl⟩
  unfold lawEnv
  rw [← hS, ← hst9]
  conv at hS => rhs; whnf
  conv at hst9 => rhs; whnf
  subst hS hst9
  obtain ⟨n1, n2, n3, n4, n5, n6, n7, n8, n9, n10, n11⟩ := id hne
  dsimp only [NeN] at n1 n2 n3 n4 n5 n6 n7 n8 n9 n10 n11
  have hk8 : ks.length ≤ 100 := by omega
  have hx : KBw.bInts (#[120] ++ d) = 120 :: ks := by
    have e := KBw.ints_app (b := #[120]) (c := d) (ks := [120]) rfl hb
    exact e
  (repeat' (first | (k_unfold; (try dsimp only)) | (k_end; wrow_close) | ((with_reducible show wpAny _ _ (call (Value.ref 69) _) _ _ _); first | (with_reducible ((rename Fr _ _ _ _ => F3); (rename News _ _ _ _ => N3); (refine wpAny_call (gw_c w (Gr.pushX G B F3 rfl rfl (by decide) (by decide)) (ks := 120 :: ks) hx (by rw [List.length_cons]; omega) (by decide) (by omega) (by omega) (by rw [List.length_cons]; omega) fun tb h' tk hk hz => ?_)); (have F4 := F3.keeps hk); (have N4 := N3.grown hk); clear F3 N3; (try dsimp only))) | ((rename Fr _ _ _ _ => F3); (rename News _ _ _ _ => N3); (refine wpAny_call (gw_c w (Gr.pushX G B F3 rfl rfl (by decide) (by decide)) (ks := 120 :: ks) hx (by rw [List.length_cons]; omega) (by decide) (by omega) (by omega) (by rw [List.length_cons]; omega) fun tb h' tk hk hz => ?_)); (have F4 := F3.keeps hk); (have N4 := N3.grown hk); clear F3 N3; (try dsimp only))) | ((with_reducible show wpAny _ _ (call (Value.ref 165) _) _ _ _); first | (with_reducible ((rename Fr _ _ _ _ => F3); (rename News _ _ _ _ => N3); (refine wpAny_call (lv_c w (Gr.pushX G B F3 rfl rfl (by decide) (by decide)) hb (by omega) fun tb h' tk hk hz => ?_)); (have F4 := F3.keeps hk); (have N4 := N3.grown hk); clear F3 N3; (try dsimp only))) | ((rename Fr _ _ _ _ => F3); (rename News _ _ _ _ => N3); (refine wpAny_call (lv_c w (Gr.pushX G B F3 rfl rfl (by decide) (by decide)) hb (by omega) fun tb h' tk hk hz => ?_)); (have F4 := F3.keeps hk); (have N4 := N3.grown hk); clear F3 N3; (try dsimp only))) | ((with_reducible show wpAny _ _ (call (Value.ref 158) _) _ _ _); first | (with_reducible ((with_unfolding_all refine' take_K ?B ?F ?X ?N ?T ?hk ?hb ?hc hi h0 n1 hlen ?k0 ?k1 r0 r1 ?m0 ?m1 ?hd ?hu ?U ?_; (case hk => exact rfl); (case B => k_asm); (case F => k_asm); (case X => k_asm); (case N => k_asm); (case T => k_asm); (case hb => k_mem); (case hc => k_mem); (case k0 => omega); (case k1 => omega); (case m0 => omega); (case m1 => omega); (case hd => exact (by decide : 352 + 1 + 5 < recursionLimit)); (case hu => exact (by decide : 172 + 3 + 20 < cLine)); (case U => k_updF)); k_whole; (intro v' t' t2' h' tk' v0' v1' F' N'); (try dsimp only at N'); (try k_sweep))) | ((with_unfolding_all refine' take_K ?B ?F ?X ?N ?T ?hk ?hb ?hc hi h0 n1 hlen ?k0 ?k1 r0 r1 ?m0 ?m1 ?hd ?hu ?U ?_; (case hk => exact rfl); (case B => k_asm); (case F => k_asm); (case X => k_asm); (case N => k_asm); (case T => k_asm); (case hb => k_mem); (case hc => k_mem); (case k0 => omega); (case k1 => omega); (case m0 => omega); (case m1 => omega); (case hd => exact (by decide : 352 + 1 + 5 < recursionLimit)); (case hu => exact (by decide : 172 + 3 + 20 < cLine)); (case U => k_updF)); k_whole; (intro v' t' t2' h' tk' v0' v1' F' N'); (try dsimp only at N'); (try k_sweep))) | walk1 | (dsimp only; walk1) | (leave1; (try dsimp only)) | fail "no step"))
  · rename ¬ _ => z
    exact absurd hv z
  · rename ¬ _ => z
    exact absurd hl z
  · rename ¬ _ => z
    refine absurd ?_ z
    show bv (List.take size.toNat ks) = n
    rw [List.take_of_length_le (by omega)]
    exact hv
  · rename Fr _ _ _ _ => F9
    rename News _ _ _ _ => N9
    exact hQ _ _ ⟨F9, N9, B, X, T, ⟨l1, l2⟩, hne, ⟨_, _, G⟩, cd1, cd2, hnt⟩
end Mine
end

section
open PySem PySem.W PySem.Spec PySem.Calls PyProof.Rows
set_option maxRecDepth 100000
set_option maxHeartbeats 8000000
namespace Mine
theorem lwS10 (w : World) {mean : ExcName → Option Value} {mg mb : Str → Option Value} {gd : Option (List Code)} {base g : Heap} {s : Shared} {L b c : Addr} {m : Str → Option Value} {Q : Flow → Shared → Prop} {E : Value → Shared → Prop} {oD oN oS ob oc o1 : Obj} {nt nt2 : List (Addr × Obj)} {ps : Array Value} {size : Int} {ts : Tok}
  (H : LwAt w mean mg mb gd base g L b c oD oN oS ob oc o1 (tabObj ps) nt m s.heap)
  (dS : oS.data = .cell (some (.int size ts))) (hs1 : 1 ≤ size) (hs5 : size ≤ 5) (I : TabI lawQ ps nt2) (hsub : ∀ q ∈ nt2, q ∈ nt)
  (hQ : ∀ g' ce ps' m' h' tk', LwAt w mean mg mb gd base g' L b c oD oN oS ob oc o1 (tabObj ps') (ce ++ nt) m' h' → TabI lawQ ps' (ce ++ nt2) → (∀ p ∈ ce, ∀ q ∈ nt, @LT.lt Nat _ q.1 p.1) → Q .next { s with heap := h', toks := tk' }) :
  wpAny (model PySem.Challenge.rw_no0060_01.row.prog w) ((zA 352 172 [] gd).deeper (lawEnv L)) (execs [stAt lawBody 10, stAt lawBody 11] (lawEnv L)) Q E s := by
  have hfill : (Mine.hd.heap_1 w.params).In g → PySem.Challenge.rw_no0060_01 = PySem.Challenge.rw_no0060_01 := by k_fill; intro _; rfl
  clear hfill
  obtain ⟨F, N, B, X, T, ⟨l1, l2⟩, hne, ⟨A', s₀, G⟩, cd1, cd2, hnt⟩ := H
  obtain ⟨S, hS⟩ : ∃ S, S = lawScope := ⟨_, rfl⟩
  obtain ⟨st, hst⟩ : ∃ S, S = stAt lawBody 10 := ⟨_, rfl⟩
  obtain ⟨st', hst'⟩ : ∃ S, S = stAt lawBody 11 := ⟨_, rfl⟩
  unfold lawEnv
  rw [← hS, ← hst, ← hst']
  conv at hS => rhs; whnf
  conv at hst => rhs; whnf
  conv at hst' => rhs; whnf
  subst hS hst hst'
  obtain ⟨n1, n2, n3, n4, n5, n6, n7, n8, n9, n10, n11⟩ := id hne
  dsimp only [NeN] at n1 n2 n3 n4 n5 n6 n7 n8 n9 n10 n11
  have hs8 : size ≤ 8 := by omega
  (repeat' (first | (k_unfold; (try dsimp only)) | (k_end; wrow_close) | ((with_reducible show wpAny _ _ (callWith _ (Value.ref _) _ _ _) _ _ _); first | (with_reducible (k_dflt (refine' callWith_K ?k1 ?k2 ?_; (case k1 => k_asm); (case k2 => k_is); k_whole))) | (k_dflt (refine' callWith_K ?k1 ?k2 ?_; (case k1 => k_asm); (case k2 => k_is); k_whole))) | ((with_reducible show wpAny _ _ (binaryOp Operator.Mult (Value.ref _) (Value.int _ _)) _ _ _); first | (with_reducible ((rename Fr _ _ _ _ => F3); (rename News _ _ _ _ => N3); (with_unfolding_all refine KMa.mul F3 N3 (PySem.IsL.isList (N3 _ (.head _)).1) (by decide) (by decide) (Nat.le_of_ble_eq_true rfl) rfl ?_); (intro D' h' F' N' l9); (try dsimp only [List.replicate, List.flatten, List.append, List.cons_append, List.nil_append, List.append_nil] at N'); (try k_lt l9); clear F3 N3)) | ((rename Fr _ _ _ _ => F3); (rename News _ _ _ _ => N3); (with_unfolding_all refine KMa.mul F3 N3 (PySem.IsL.isList (N3 _ (.head _)).1) (by decide) (by decide) (Nat.le_of_ble_eq_true rfl) rfl ?_); (intro D' h' F' N' l9); (try dsimp only [List.replicate, List.flatten, List.append, List.cons_append, List.nil_append, List.append_nil] at N'); (try k_lt l9); clear F3 N3)) | ((with_reducible show wpAny _ _ (call (Value.ref 172) _) _ _ _); first | (with_reducible ((rename Fr _ _ _ _ => F3); (rename News _ _ _ _ => N3); (first | (with_unfolding_all refine wpAny_call (refused_Q w (Gr.pushX G B F3 rfl rfl (by decide) (by decide)) (N3 _ (.head _)).1 rfl (fun A2 l2 s2 R2 G2 hk2 hR2 => lam53_R w G2 (hk2 _ _ (N3 _ (.head _)).1) rfl (hcr'.keeps hk2) hR2) (fun a nx t1 t2 h2 tk2 TT ha1 ha2 => ?_))) | (with_unfolding_all refine wpAny_call (refused_Q w (Gr.pushX G B F3 rfl rfl (by decide) (by decide)) (N3 _ (.head _)).1 rfl (fun A2 l2 s2 R2 G2 hk2 hR2 => lamW_R w G2 (hk2 _ _ (N3 _ (.head _)).1) rfl (hcr2.keeps hk2) ⟨oS, hk2 _ _ (N3 (L + 1 + 1 + 1, oS) (.tail _ (.tail _ (.tail _ (.head _))))).1, dS⟩ hs1 hs8 hR2) (fun a nx t1 t2 h2 tk2 TT ha1 ha2 => ?_)))); (try dsimp only); (obtain ⟨g2, T2, F4, N4, B4⟩ := turned B F3 N3 rfl TT); (with_unfolding_all have X4 := G.K.keeps B4.stays); (with_unfolding_all have T4 := G.top.keeps B4.stays); (have N5 := News.more F4 N4 ha2 (fun es n q => by cases q) (T2.none_ _ (kts_none F3.keep ha1))); (have ln := allNe_new ha1 N3); (simp only [AllNe, and_true] at ln); clear F3 N3 N4 B X T; (have B := B4); (have X := X4); (have T := T4); clear B4 X4 T4; (try dsimp only))) | ((rename Fr _ _ _ _ => F3); (rename News _ _ _ _ => N3); (first | (with_unfolding_all refine wpAny_call (refused_Q w (Gr.pushX G B F3 rfl rfl (by decide) (by decide)) (N3 _ (.head _)).1 rfl (fun A2 l2 s2 R2 G2 hk2 hR2 => lam53_R w G2 (hk2 _ _ (N3 _ (.head _)).1) rfl (hcr'.keeps hk2) hR2) (fun a nx t1 t2 h2 tk2 TT ha1 ha2 => ?_))) | (with_unfolding_all refine wpAny_call (refused_Q w (Gr.pushX G B F3 rfl rfl (by decide) (by decide)) (N3 _ (.head _)).1 rfl (fun A2 l2 s2 R2 G2 hk2 hR2 => lamW_R w G2 (hk2 _ _ (N3 _ (.head _)).1) rfl (hcr2.keeps hk2) ⟨oS, hk2 _ _ (N3 (L + 1 + 1 + 1, oS) (.tail _ (.tail _ (.tail _ (.head _))))).1, dS⟩ hs1 hs8 hR2) (fun a nx t1 t2 h2 tk2 TT ha1 ha2 => ?_)))); (try dsimp only); (obtain ⟨g2, T2, F4, N4, B4⟩ := turned B F3 N3 rfl TT); (with_unfolding_all have X4 := G.K.keeps B4.stays); (with_unfolding_all have T4 := G.top.keeps B4.stays); (have N5 := News.more F4 N4 ha2 (fun es n q => by cases q) (T2.none_ _ (kts_none F3.keep ha1))); (have ln := allNe_new ha1 N3); (simp only [AllNe, and_true] at ln); clear F3 N3 N4 B X T; (have B := B4); (have X := X4); (have T := T4); clear B4 X4 T4; (try dsimp only))) | ((with_reducible show wpAny _ _ (eval (Expr.Lambda ..) _) _ _ _); first | (with_reducible ((rename Fr _ _ _ _ => F3); (rename News _ _ _ _ => N3); first | ((with_unfolding_all refine' lam_make (pre := [(L + 1 + 1 + 1, oS), (L + 1 + 1, oN), (L + 1, oD), (b, ob), (c, oc), (174, o1), (179, _)]) F3 N3 T (cd2.keeps B.stays) rfl ?U I hsub ?hP ?hdef ?hq ?hcl ?_); (with_unfolding_all (case U => k_updF)); (with_unfolding_all (case hP => exact fun q hq => (hnt q hq).2.2.2.1)); (with_unfolding_all (case hdef => exact rfl)); (with_unfolding_all (case hq => exact rfl)); (with_unfolding_all (case hcl => exact rfl)); clear I; (intro f' c' ctv' ps' ce' h' tk' F' N' hcr' I lce' l1'); (replace hnt := hnt_app hnt lce' (.head _) (.tail _ (.head _)) (.tail _ (.tail _ (.head _))) (.tail _ (.tail _ (.tail _ (.head _)))) (.tail _ (.tail _ (.tail _ (.tail _ (.head _))))) (.tail _ (.tail _ (.tail _ (.tail _ (.tail _ (.head _)))))) (.tail _ (.tail _ (.tail _ (.tail _ (.tail _ (.tail _ (.head _)))))))); (replace hsub := app_sub (ce := ce') hsub); (try dsimp only [List.cons_append, List.nil_append] at N'); (simp only [List.cons_append, List.nil_append] at l1'); (k_lt l1'); clear F3 N3) | ((with_unfolding_all refine' lam_make (pre := [_, _, (L + 1 + 1 + 1, oS), (L + 1 + 1, oN), (L + 1, oD), (b, ob), (c, oc), (174, o1), (179, _)]) F3 N3 T (cd2.keeps B.stays) rfl ?U I hsub ?hP ?hdef ?hq ?hcl ?_); (with_unfolding_all (case U => k_updF)); (with_unfolding_all (case hP => exact fun q hq => (hnt q hq).2.2.2.1)); (with_unfolding_all (case hdef => exact rfl)); (with_unfolding_all (case hq => exact rfl)); (with_unfolding_all (case hcl => exact rfl)); clear I; (intro f2 c2 ctv2 ps2 ce2 h' tk' F' N' hcr2 I lce2 l1'); (replace hnt := hnt_app hnt lce2 (.tail _ (.tail _ (.head _))) (.tail _ (.tail _ (.tail _ (.head _)))) (.tail _ (.tail _ (.tail _ (.tail _ (.head _))))) (.tail _ (.tail _ (.tail _ (.tail _ (.tail _ (.head _)))))) (.tail _ (.tail _ (.tail _ (.tail _ (.tail _ (.tail _ (.head _))))))) (.tail _ (.tail _ (.tail _ (.tail _ (.tail _ (.tail _ (.tail _ (.head _)))))))) (.tail _ (.tail _ (.tail _ (.tail _ (.tail _ (.tail _ (.tail _ (.tail _ (.head _)))))))))); (replace hsub := app_sub (ce := ce2) hsub); (try dsimp only [List.cons_append, List.nil_append] at N'); (simp only [List.cons_append, List.nil_append] at l1'); (k_lt l1'); clear F3 N3))) | ((rename Fr _ _ _ _ => F3); (rename News _ _ _ _ => N3); first | ((with_unfolding_all refine' lam_make (pre := [(L + 1 + 1 + 1, oS), (L + 1 + 1, oN), (L + 1, oD), (b, ob), (c, oc), (174, o1), (179, _)]) F3 N3 T (cd2.keeps B.stays) rfl ?U I hsub ?hP ?hdef ?hq ?hcl ?_); (with_unfolding_all (case U => k_updF)); (with_unfolding_all (case hP => exact fun q hq => (hnt q hq).2.2.2.1)); (with_unfolding_all (case hdef => exact rfl)); (with_unfolding_all (case hq => exact rfl)); (with_unfolding_all (case hcl => exact rfl)); clear I; (intro f' c' ctv' ps' ce' h' tk' F' N' hcr' I lce' l1'); (replace hnt := hnt_app hnt lce' (.head _) (.tail _ (.head _)) (.tail _ (.tail _ (.head _))) (.tail _ (.tail _ (.tail _ (.head _)))) (.tail _ (.tail _ (.tail _ (.tail _ (.head _))))) (.tail _ (.tail _ (.tail _ (.tail _ (.tail _ (.head _)))))) (.tail _ (.tail _ (.tail _ (.tail _ (.tail _ (.tail _ (.head _)))))))); (replace hsub := app_sub (ce := ce') hsub); (try dsimp only [List.cons_append, List.nil_append] at N'); (simp only [List.cons_append, List.nil_append] at l1'); (k_lt l1'); clear F3 N3) | ((with_unfolding_all refine' lam_make (pre := [_, _, (L + 1 + 1 + 1, oS), (L + 1 + 1, oN), (L + 1, oD), (b, ob), (c, oc), (174, o1), (179, _)]) F3 N3 T (cd2.keeps B.stays) rfl ?U I hsub ?hP ?hdef ?hq ?hcl ?_); (with_unfolding_all (case U => k_updF)); (with_unfolding_all (case hP => exact fun q hq => (hnt q hq).2.2.2.1)); (with_unfolding_all (case hdef => exact rfl)); (with_unfolding_all (case hq => exact rfl)); (with_unfolding_all (case hcl => exact rfl)); clear I; (intro f2 c2 ctv2 ps2 ce2 h' tk' F' N' hcr2 I lce2 l1'); (replace hnt := hnt_app hnt lce2 (.tail _ (.tail _ (.head _))) (.tail _ (.tail _ (.tail _ (.head _)))) (.tail _ (.tail _ (.tail _ (.tail _ (.head _))))) (.tail _ (.tail _ (.tail _ (.tail _ (.tail _ (.head _)))))) (.tail _ (.tail _ (.tail _ (.tail _ (.tail _ (.tail _ (.head _))))))) (.tail _ (.tail _ (.tail _ (.tail _ (.tail _ (.tail _ (.tail _ (.head _)))))))) (.tail _ (.tail _ (.tail _ (.tail _ (.tail _ (.tail _ (.tail _ (.tail _ (.head _)))))))))); (replace hsub := app_sub (ce := ce2) hsub); (try dsimp only [List.cons_append, List.nil_append] at N'); (simp only [List.cons_append, List.nil_append] at l1'); (k_lt l1'); clear F3 N3))) | walk1 | (dsimp only; walk1) | (leave1; (try dsimp only)) | fail "no step"))
  rename Fr _ _ _ _ => F9
  rename News _ _ _ _ => N9
  refine hQ _ (ce2 ++ ce') ps2 _ _ _ ⟨F9, fun p hp => ?_, B, X, T, ⟨l1, l2⟩, hne, ⟨_, _, G⟩, cd1, cd2, ?_⟩ ?_ ?_
  · refine N9 p (.tail _ (.tail _ (.tail _ (.tail _ (.tail _ (.tail _ (.tail _ (.tail _ (mem8 (l := (ce2 ++ ce') ++ nt) (fun q => ?_) hp)))))))))
    rw [List.append_assoc] at q
    exact q
  · rw [List.append_assoc]
    exact hnt
  · rw [List.append_assoc]
    exact I
  · intro p hp q hq
    rcases List.mem_append.mp hp with hp | hp
    · exact lce2 p hp q (List.mem_append_right _ (List.mem_append_right _ hq))
    · exact lce' p hp q (List.mem_append_right _ hq)
end Mine
end

section
open PySem PySem.W PySem.Spec PySem.Calls PyProof.Rows
set_option maxRecDepth 100000
set_option maxHeartbeats 8000000
namespace Mine
theorem lwS12 (w : World) {mean : ExcName → Option Value} {mg mb : Str → Option Value} {gd : Option (List Code)} {base g : Heap} {s : Shared} {L b c : Addr} {m : Str → Option Value} {Q : Flow → Shared → Prop} {E : Value → Shared → Prop} {oD oN oS ob oc o1 : Obj} {nt nt2 : List (Addr × Obj)} {ps : Array Value} {size : Int} {ts td : Tok} {d : Array UInt8} {ks : List Int}
  (H : LwAt w mean mg mb gd base g L b c oD oN oS ob oc o1 (tabObj ps) nt m s.heap)
  (dD : oD.data = .cell (some (.bytes d td))) (hb : KBw.bInts d = ks) (hl : (ks.length : Int) = size) (dS : oS.data = .cell (some (.int size ts))) (hs1 : 1 ≤ size) (hs5 : size ≤ 5) (I : TabI lawQ ps nt2) (hsub : ∀ q ∈ nt2, q ∈ nt)
  (hQ : ∀ g' ce ps' h' tk', LwAt w mean mg mb gd base g' L b c oD oN oS ob oc o1 (tabObj ps') (ce ++ nt) m h' → Q (.ret (.bool true)) { s with heap := h', toks := tk' }) :
  wpAny (model PySem.Challenge.rw_no0060_01.row.prog w) ((zA 352 172 [] gd).deeper (lawEnv L)) (exec (stAt lawBody 12) (lawEnv L)) Q E s := by
  have hfill : (Mine.hd.heap_1 w.params).In g → PySem.Challenge.rw_no0060_01 = PySem.Challenge.rw_no0060_01 := by k_fill; intro _; rfl
  clear hfill
  obtain ⟨F, N, B, X, T, ⟨l1, l2⟩, hne, ⟨A', s₀, G⟩, cd1, cd2, hnt⟩ := H
  obtain ⟨S, hS⟩ : ∃ S, S = lawScope := ⟨_, rfl⟩
  obtain ⟨st, hst⟩ : ∃ S, S = stAt lawBody 12 := ⟨_, rfl⟩
  unfold lawEnv
  rw [← hS, ← hst]
  conv at hS => rhs; whnf
  conv at hst => rhs; whnf
  subst hS hst
  obtain ⟨n1, n2, n3, n4, n5, n6, n7, n8, n9, n10, n11⟩ := id hne
  dsimp only [NeN] at n1 n2 n3 n4 n5 n6 n7 n8 n9 n10 n11
  have hs8 : size ≤ 8 := by omega
  have hk8 : ks.length ≤ 100 := by omega
  have hcut : (ks.length : Int) < 1 + size := by omega
  (repeat' (first | (k_unfold; (try dsimp only)) | (k_end; wrow_close) | ((with_reducible show wpAny _ _ (callWith _ (Value.ref _) _ _ _) _ _ _); first | (with_reducible (k_dflt (refine' callWith_K ?k1 ?k2 ?_; (case k1 => k_asm); (case k2 => k_is); k_whole))) | (k_dflt (refine' callWith_K ?k1 ?k2 ?_; (case k1 => k_asm); (case k2 => k_is); k_whole))) | ((with_reducible show wpAny _ _ (binaryOp Operator.Mult (Value.ref _) (Value.int _ _)) _ _ _); first | (with_reducible ((rename Fr _ _ _ _ => F3); (rename News _ _ _ _ => N3); (with_unfolding_all refine KMa.mul F3 N3 (PySem.IsL.isList (N3 _ (.head _)).1) (by decide) (by decide) (Nat.le_of_ble_eq_true rfl) rfl ?_); (intro D' h' F' N' l9); (try dsimp only [List.replicate, List.flatten, List.append, List.cons_append, List.nil_append, List.append_nil] at N'); (try k_lt l9); clear F3 N3)) | ((rename Fr _ _ _ _ => F3); (rename News _ _ _ _ => N3); (with_unfolding_all refine KMa.mul F3 N3 (PySem.IsL.isList (N3 _ (.head _)).1) (by decide) (by decide) (Nat.le_of_ble_eq_true rfl) rfl ?_); (intro D' h' F' N' l9); (try dsimp only [List.replicate, List.flatten, List.append, List.cons_append, List.nil_append, List.append_nil] at N'); (try k_lt l9); clear F3 N3)) | ((with_reducible show wpAny _ _ (call (Value.ref 172) _) _ _ _); first | (with_reducible ((rename Fr _ _ _ _ => F3); (rename News _ _ _ _ => N3); (first | (with_unfolding_all refine wpAny_call (refused_S w (Gr.pushX G B F3 rfl rfl (by decide) (by decide)) (N3 _ (.head _)).1 rfl (fun A2 l2 s2 R2 G2 hk2 hR2 => lamG_R w (ks := ks) G2 (hk2 _ _ (N3 _ (.head _)).1) rfl (hcr'.keeps hk2) ⟨oD, hk2 _ _ (N3 (L + 1, oD) (.tail _ (.tail _ (.tail _ (.head _))))).1, dD⟩ ⟨oS, hk2 _ _ (N3 (L + 1 + 1 + 1, oS) (.tail _ (.head _))).1, dS⟩ hb hk8 hs1 hs8 hcut hR2) (fun t2 h2 tk2 TT => ?_))) | (with_unfolding_all refine wpAny_call (refused_S w (Gr.pushX G B F3 rfl rfl (by decide) (by decide)) (N3 _ (.head _)).1 rfl (fun A2 l2 s2 R2 G2 hk2 hR2 => lamE_R w G2 (hk2 _ _ (N3 _ (.head _)).1) rfl (hcr2.keeps hk2) hR2) (fun t2 h2 tk2 TT => ?_)))); (try dsimp only); (obtain ⟨g2, T2, F4, N4, B4⟩ := turned B F3 N3 rfl TT); (with_unfolding_all have X4 := G.K.keeps B4.stays); (with_unfolding_all have T4 := G.top.keeps B4.stays); clear F3 N3 B X T; (have B := B4); (have X := X4); (have T := T4); clear B4 X4 T4; (try dsimp only))) | ((rename Fr _ _ _ _ => F3); (rename News _ _ _ _ => N3); (first | (with_unfolding_all refine wpAny_call (refused_S w (Gr.pushX G B F3 rfl rfl (by decide) (by decide)) (N3 _ (.head _)).1 rfl (fun A2 l2 s2 R2 G2 hk2 hR2 => lamG_R w (ks := ks) G2 (hk2 _ _ (N3 _ (.head _)).1) rfl (hcr'.keeps hk2) ⟨oD, hk2 _ _ (N3 (L + 1, oD) (.tail _ (.tail _ (.tail _ (.head _))))).1, dD⟩ ⟨oS, hk2 _ _ (N3 (L + 1 + 1 + 1, oS) (.tail _ (.head _))).1, dS⟩ hb hk8 hs1 hs8 hcut hR2) (fun t2 h2 tk2 TT => ?_))) | (with_unfolding_all refine wpAny_call (refused_S w (Gr.pushX G B F3 rfl rfl (by decide) (by decide)) (N3 _ (.head _)).1 rfl (fun A2 l2 s2 R2 G2 hk2 hR2 => lamE_R w G2 (hk2 _ _ (N3 _ (.head _)).1) rfl (hcr2.keeps hk2) hR2) (fun t2 h2 tk2 TT => ?_)))); (try dsimp only); (obtain ⟨g2, T2, F4, N4, B4⟩ := turned B F3 N3 rfl TT); (with_unfolding_all have X4 := G.K.keeps B4.stays); (with_unfolding_all have T4 := G.top.keeps B4.stays); clear F3 N3 B X T; (have B := B4); (have X := X4); (have T := T4); clear B4 X4 T4; (try dsimp only))) | ((with_reducible show wpAny _ _ (eval (Expr.Lambda ..) _) _ _ _); first | (with_reducible ((rename Fr _ _ _ _ => F3); (rename News _ _ _ _ => N3); first | ((with_unfolding_all refine' lam_make (pre := [(L + 1 + 1 + 1, oS), (L + 1 + 1, oN), (L + 1, oD), (b, ob), (c, oc), (174, o1), (179, _)]) F3 N3 T (cd2.keeps B.stays) rfl ?U I hsub ?hP ?hdef ?hq ?hcl ?_); (with_unfolding_all (case U => k_updF)); (with_unfolding_all (case hP => exact fun q hq => (hnt q hq).2.2.2.1)); (with_unfolding_all (case hdef => exact rfl)); (with_unfolding_all (case hq => exact rfl)); (with_unfolding_all (case hcl => exact rfl)); clear I; (intro f' c' ctv' ps' ce' h' tk' F' N' hcr' I lce' l1'); (replace hnt := hnt_app hnt lce' (.head _) (.tail _ (.head _)) (.tail _ (.tail _ (.head _))) (.tail _ (.tail _ (.tail _ (.head _)))) (.tail _ (.tail _ (.tail _ (.tail _ (.head _))))) (.tail _ (.tail _ (.tail _ (.tail _ (.tail _ (.head _)))))) (.tail _ (.tail _ (.tail _ (.tail _ (.tail _ (.tail _ (.head _)))))))); (replace hsub := app_sub (ce := ce') hsub); (try dsimp only [List.cons_append, List.nil_append] at N'); (simp only [List.cons_append, List.nil_append] at l1'); (k_lt l1'); clear F3 N3) | ((with_unfolding_all refine' lam_make (pre := [_, (L + 1 + 1 + 1, oS), (L + 1 + 1, oN), (L + 1, oD), (b, ob), (c, oc), (174, o1), (179, _)]) F3 N3 T (cd2.keeps B.stays) rfl ?U I hsub ?hP ?hdef ?hq ?hcl ?_); (with_unfolding_all (case U => k_updF)); (with_unfolding_all (case hP => exact fun q hq => (hnt q hq).2.2.2.1)); (with_unfolding_all (case hdef => exact rfl)); (with_unfolding_all (case hq => exact rfl)); (with_unfolding_all (case hcl => exact rfl)); clear I; (intro f2 c2 ctv2 ps2 ce2 h' tk' F' N' hcr2 I lce2 l1'); (replace hnt := hnt_app hnt lce2 (.tail _ (.head _)) (.tail _ (.tail _ (.head _))) (.tail _ (.tail _ (.tail _ (.head _)))) (.tail _ (.tail _ (.tail _ (.tail _ (.head _))))) (.tail _ (.tail _ (.tail _ (.tail _ (.tail _ (.head _)))))) (.tail _ (.tail _ (.tail _ (.tail _ (.tail _ (.tail _ (.head _))))))) (.tail _ (.tail _ (.tail _ (.tail _ (.tail _ (.tail _ (.tail _ (.head _))))))))); (replace hsub := app_sub (ce := ce2) hsub); (try dsimp only [List.cons_append, List.nil_append] at N'); (simp only [List.cons_append, List.nil_append] at l1'); (k_lt l1'); clear F3 N3))) | ((rename Fr _ _ _ _ => F3); (rename News _ _ _ _ => N3); first | ((with_unfolding_all refine' lam_make (pre := [(L + 1 + 1 + 1, oS), (L + 1 + 1, oN), (L + 1, oD), (b, ob), (c, oc), (174, o1), (179, _)]) F3 N3 T (cd2.keeps B.stays) rfl ?U I hsub ?hP ?hdef ?hq ?hcl ?_); (with_unfolding_all (case U => k_updF)); (with_unfolding_all (case hP => exact fun q hq => (hnt q hq).2.2.2.1)); (with_unfolding_all (case hdef => exact rfl)); (with_unfolding_all (case hq => exact rfl)); (with_unfolding_all (case hcl => exact rfl)); clear I; (intro f' c' ctv' ps' ce' h' tk' F' N' hcr' I lce' l1'); (replace hnt := hnt_app hnt lce' (.head _) (.tail _ (.head _)) (.tail _ (.tail _ (.head _))) (.tail _ (.tail _ (.tail _ (.head _)))) (.tail _ (.tail _ (.tail _ (.tail _ (.head _))))) (.tail _ (.tail _ (.tail _ (.tail _ (.tail _ (.head _)))))) (.tail _ (.tail _ (.tail _ (.tail _ (.tail _ (.tail _ (.head _)))))))); (replace hsub := app_sub (ce := ce') hsub); (try dsimp only [List.cons_append, List.nil_append] at N'); (simp only [List.cons_append, List.nil_append] at l1'); (k_lt l1'); clear F3 N3) | ((with_unfolding_all refine' lam_make (pre := [_, (L + 1 + 1 + 1, oS), (L + 1 + 1, oN), (L + 1, oD), (b, ob), (c, oc), (174, o1), (179, _)]) F3 N3 T (cd2.keeps B.stays) rfl ?U I hsub ?hP ?hdef ?hq ?hcl ?_); (with_unfolding_all (case U => k_updF)); (with_unfolding_all (case hP => exact fun q hq => (hnt q hq).2.2.2.1)); (with_unfolding_all (case hdef => exact rfl)); (with_unfolding_all (case hq => exact rfl)); (with_unfolding_all (case hcl => exact rfl)); clear I; (intro f2 c2 ctv2 ps2 ce2 h' tk' F' N' hcr2 I lce2 l1'); (replace hnt := hnt_app hnt lce2 (.tail _ (.head _)) (.tail _ (.tail _ (.head _))) (.tail _ (.tail _ (.tail _ (.head _)))) (.tail _ (.tail _ (.tail _ (.tail _ (.head _))))) (.tail _ (.tail _ (.tail _ (.tail _ (.tail _ (.head _)))))) (.tail _ (.tail _ (.tail _ (.tail _ (.tail _ (.tail _ (.head _))))))) (.tail _ (.tail _ (.tail _ (.tail _ (.tail _ (.tail _ (.tail _ (.head _))))))))); (replace hsub := app_sub (ce := ce2) hsub); (try dsimp only [List.cons_append, List.nil_append] at N'); (simp only [List.cons_append, List.nil_append] at l1'); (k_lt l1'); clear F3 N3))) | walk1 | (dsimp only; walk1) | (leave1; (try dsimp only)) | fail "no step"))
  rename Fr _ _ _ _ => F9
  rename News _ _ _ _ => N9
  rw [beq_self_eq_true]
  refine hQ _ (ce2 ++ ce') ps2 _ _ ⟨F9, fun p hp => ?_, B, X, T, ⟨l1, l2⟩, hne, ⟨_, _, G⟩, cd1, cd2, ?_⟩
  · refine N9 p (.tail _ (.tail _ (mem8 (l := (ce2 ++ ce') ++ nt) (fun q => ?_) hp)))
    rw [List.append_assoc] at q
    exact q
  · rw [List.append_assoc]
    exact hnt
end Mine
end

section
open PySem PySem.W PySem.Spec PySem.Calls PyProof.Rows
set_option maxRecDepth 100000
set_option maxHeartbeats 8000000
namespace Mine
theorem execs_two {M : Model} {A : Around} {E : Value → Shared → Prop} {s : Shared} {env : Env} {a b : Stmt} {rest : List Stmt} {Q : Flow → Shared → Prop}
    (h : wpC M A (execs [a, b] env) (fun f s₁ => match f with | .next => wpC M A (execs rest env) Q E s₁ | f => Q f s₁) E s) : wpC M A (execs (a :: b :: rest) env) Q E s := fun Γ p hΓ ho => by
  have h := h Γ p hΓ ho
  rw [execs_cons, Sem.wp_bind'] at h ⊢
  refine Sem.wp_mono M Γ (exec a env) (fun f p' s' hf => ?_) (fun _ _ _ x => x) p s h
  cases f with
  | next =>
    have hf : Sem.wp M Γ (execs [b] env) _ _ p' s' := hf
    show Sem.wp M Γ (execs (b :: rest) env) _ _ p' s'
    rw [execs_cons, Sem.wp_bind'] at hf ⊢
    refine Sem.wp_mono M Γ (exec b env) (fun f2 p2 s2 hf2 => ?_) (fun _ _ _ x => x) p' s' hf
    cases f2 with
    | next => exact (show wpC M A (execs rest env) Q E s2 from hf2) Γ p2 hΓ ho
    | cont => exact hf2
    | brk => exact hf2
    | ret v => exact hf2
  | cont => exact hf
  | brk => exact hf
  | ret v => exact hf
noncomputable abbrev mScr (a : Addr) (m : Str → Option Value) : Str → Option Value := fun y => if y = Str.ofString "script" then some (.ref a) else m y
theorem fr_scr {g h : Heap} {L a : Addr} {m : Str → Option Value} (F : Fr g L h m) (e : m (Str.ofString "script") = some (.ref a)) : Fr g L h (mScr a m) := by
  have q : m = mScr a m := by
    funext y
    by_cases e1 : y = Str.ofString "script"
    · subst e1
      exact e
    · show _ = if _ then _ else _
      rw [if_neg e1]
  rw [← q]
  exact F
theorem fm_in {y : Int} {k : Nat} : 0 ≤ y.fmod (256 ^ k) ∧ y.fmod (256 ^ k) < 256 ^ k := by
  have hp : (0 : Int) < 256 ^ k := Int.pow_pos (by decide)
  exact ⟨Int.fmod_nonneg_of_pos _ hp, Int.fmod_lt_of_pos _ hp⟩
/-- the body of law -/
theorem lwAll (w : World) {mean : ExcName → Option Value} {mg mb : Str → Option Value} {gd : Option (List Code)} {base g : Heap} {s s₀ : Shared} {A : Around} {L : Addr} {m : Str → Option Value} {Q : Flow → Shared → Prop} {oD oN oS : Obj} {a : Addr} {vs : List Value} {ns : List Int}
  (F : Fr g L s.heap (mScr a m)) (N : News g L s.heap [(L + 1 + 1 + 1, oS), (L + 1 + 1, oN), (L + 1, oD), (174, tabObj #[]), (179, tabObj #[])]) (B : Below (zA 352 172 [] gd) base [] g) (X : (Mine.hd.heap_1 w.params).In g) (T : Top topProg LL mean mg mb g) (lt : @LT.lt Nat _ 174 L ∧ @LT.lt Nat _ 179 L)
  (G : Gr w mean mg mb 352 172 A base [] s₀) (cd1 : CodeHd base 176 174) (cd2 : CodeHd base 183 179)
  (dD : oD.data = .cell none) (dN : oN.data = .cell none) (dS : oS.data = .cell none)
  (hl : g.IsList a vs.toArray) (hi : IntsAre vs ns) (hlen : ns.length ≤ 63)
  (hQ : ∀ h' tk ps ps2, (∀ b o, base.get? b = some o → h'.get? b = some o) → h'.get? 174 = some (tabObj ps) → h'.get? 179 = some (tabObj ps2) → Q (.ret (.bool true)) { s with heap := h', toks := tk }) :
  wpC (model PySem.Challenge.rw_no0060_01.row.prog w) ((zA 352 172 [] gd).deeper (lawEnv L)) (execs lawBody (lawEnv L)) Q NoE s := by
  rw [lawBody_is]
  refine execs_C (wpC_any (lwS0 w F N B X T lt G cd1 cd2 hl hi hlen fun b c r t1 t2 nb nc cs ms m' h1 tk1 hcs hm24 hm0 r0 r1 H => ?_))
  refine execs_C ?_
  obtain ⟨t1', ht1⟩ : ∃ t, t = exec (stAt lawBody 1) (lawEnv L) := ⟨_, rfl⟩
  rw [← ht1]
  refine wpC_any (lwS1 w H ht1 fun e its n h2 tk2 hE H => ?_)
  have H2 : LwAt w mean mg mb gd base g L b c oD oN oS (boxO c 0 r t1 t2 nb) (listOf cs.toArray nc) (tabObj #[]) (tabObj #[]) [(e, listOf its.toArray n)] (lwM b e _) h2 := (lwM_eq (b := b) (e := e) (m := fun y => if y = Str.ofString "edges" then some (.ref e) else if y = Str.ofString "box" then some (.ref b) else m' y) rfl rfl) ▸ H
  refine execs_C ?_
  obtain ⟨t, ht⟩ : ∃ t, t = exec (stAt lawBody 2) (lawEnv L) := ⟨_, rfl⟩
  rw [← ht]
  refine lwS2 w H2 dN (.head _) hE (I := TabI.nil (nt := [])) (fun q hq => nomatch hq) hcs hm0 hm24 r0 (by omega) (fun g3 oN3 cv3 k3 tk3 ps3 ce3 m3 h3 tkh3 H3 dN3 I3 e0 e1 => ?_) ht
  refine execs_C (wpC_any (lwS3 w H3 hcs hm0 fun gr tg h4 tk4 hgr H4 => ?_))
  refine execs_C (lwS4 w H4 (I := I3) (app_sub fun q hq => nomatch hq) hcs hm0 hm24 e0 (by omega) r0 (by omega) fun g5 k5 tk5 ps5 ce5 h5 tkh5 H5 I5 hce5 e2 e3 => ?_)
  refine execs_C ?_
  obtain ⟨t', ht'⟩ : ∃ t, t = exec (stAt lawBody 5) (lawEnv L) := ⟨_, rfl⟩
  rw [← ht']
  refine lwS5 w H5 dN3 (I := TabI.nil (nt := [])) (fun q hq => nomatch hq) (fun g6 oN6 cv6 ps6 ce6 h6 tk6 H6 dN6 I6 => ?_) ht'
  refine execs_two (wpC_any (lwS67 w H6 dN6 dS hcs hm0 hm24 (by omega) (by omega) r0 (by omega) fun oN7 oS7 tn ts size ob7 h7 tk7 z1 z5 dN7 dS7 H7 => ?_))
  have hf := fm_in (y := gr) (k := size.toNat)
  refine execs_C (lwS8 w H7 dD dN7 dS7 z1 z5 hf.1 hf.2 fun oD8 d td h8 tk8 hd8 dD8 H8 => ?_)
  refine execs_C (wpC_any (lwS9 w H8 dD8 dN7 dS7 z1 z5 hd8 (by rw [dig_length]; omega) (bv_dig_small hf.1 hf.2) fun h9 tk9 H9 => ?_))
  refine execs_two (wpC_any (lwS10 w H9 dS7 z1 z5 I6 (app_sub fun q hq => nomatch hq) fun g10 ce10 ps10 m10 h10 tk10 H10 I10 hce10 => ?_))
  refine execs_C (wpC_any (lwS12 w H10 dD8 hd8 (by rw [dig_length]; omega) dS7 z1 z5 I10 (app_sub (app_sub fun q hq => nomatch hq)) fun g12 ce12 ps12 h12 tk12 H12 => ?_))
  exact hQ h12 tk12 ps5 ps12 (fun b o e => H12.F.keep _ _ (H12.B.stays _ _ e)) (H12.N _ (.tail _ (.tail _ (.tail _ (.tail _ (.tail _ (.head _))))))).1 (H12.N _ (.tail _ (.tail _ (.tail _ (.tail _ (.tail _ (.tail _ (.head _)))))))).1
theorem law_C : LawC := by
  intro w mean mg mb A base s R l vs ns G hl hi hlen h174 h179 cd1 cd2 hR
  have hfill : (Mine.hd.heap_1 w.params).In s.heap → PySem.Challenge.rw_no0060_01 = PySem.Challenge.rw_no0060_01 := by k_fill; intro _; rfl
  clear hfill
  refine' enterCC (hid := [(174, tabObj #[]), (179, tabObj #[])]) G (by decide) ?ho ?hcd ?hbind ?hloc ?hnd ?hh ?_ ?c2 ?c3 ?c4; (case ho => k_is); (case hcd => k_is); (case hbind => exact BindsTo.of_eq rfl); (case hnd => decide +kernel); (case hloc => exact rfl); (case c2 => exact rfl); (case c3 => exact rfl); (case c4 => exact rfl)
  case hh =>
    intro p hp
    rcases List.mem_cons.mp hp with rfl | hp
    · exact ⟨h174.1, h174.2, fun q => nomatch q⟩
    · have e := List.mem_singleton.mp hp
      subst e
      exact ⟨h179.1, h179.2, fun q => nomatch q⟩
  intro L' h₁ tk' cells F N Y B X T l1
  k_cells Y
  simp only [List.cons_append, List.nil_append] at N
  have hb1 := l1 _ (.head _)
  have hb2 := l1 _ (.tail _ (.head _))
  replace F := fr_scr (a := l) F rfl
  refine wpC_mono (lwAll w (gd := A.guards) (Q := fun fl s' => R (.ok (.ret (match fl with | .ret v => v | _ => .none))) s') F N B X T ⟨hb1, hb2⟩ G cd1 cd2 ?_ ?_ ?_ (stays_list B.stays hl) hi hlen hR) (fun _ _ h => h) fun _ _ h => h
  · exact (by assumption : _ = Data.cell (bindC _ _ _ (Str.ofString "data"))).trans rfl
  · exact (by assumption : _ = Data.cell (bindC _ _ _ (Str.ofString "n"))).trans rfl
  · exact (by assumption : _ = Data.cell (bindC _ _ _ (Str.ofString "size"))).trans rfl
end Mine
end

section
open PySem PySem.W PySem.Spec PySem.Calls PyProof.Rows
set_option maxRecDepth 100000
set_option maxHeartbeats 8000000
namespace Mine
noncomputable abbrev hk := kmHook Mine.K2 [0, 2, 3, 15, 22, 24, 25, 27, 28, 29, 30, 31, 32, 35, 42, 44, 45, 47, 48, 49, 50, 51, 52, 55, 56, 58, 59, 61, 62, 63, 65, 66, 68, 69, 70, 72, 73, 75, 76, 77, 79, 80, 82, 83, 84, 86, 87, 89, 90, 98, 100, 101, 103, 104, 105, 107, 108, 110, 111, 112, 114, 115, 117, 118, 119, 121, 122, 124, 125, 126, 128, 129, 131, 132, 133, 135, 136, 138, 139, 140, 141, 142, 143, 144, 147, 150, 151, 152, 154, 155, 157, 158, 159, 161, 162, 164, 165, 166, 168, 169, 171, 172, 173, 176, 177, 178, 180, 181, 183, 184] (fun _ => by kernel_rfl) [174, 179]
/-- the kernel runs the top, once -/
theorem left : LeftO PySem.Challenge.rw_no0060_01.row.prog Mine.hd.view_1 [] (fun s => xlAt Mine.hd.view_1 [] s && recOk (RowW.records PySem.Challenge.rw_no0060_01.row.toRowW) s) (Hook.obs hk) (Hook.val hk) 2602 := by
  intro w
  kernel_rfl
theorem final : PySem.Challenge.rw_no0060_01.Holds := by
  w_on
  refine holds_law (by kernel_rfl) fun said => ?_
  refine Mine.holds_open_C (q := Mine.hd.view_1) (loose := []) (Xt := fun s => xlAt Mine.hd.view_1 [] s && recOk (RowW.records PySem.Challenge.rw_no0060_01.row.toRowW) s) (XP := XL Mine.hd.view_1 []) (Yf := Hook.obs hk) (Ya := Hook.val hk) (YP := Hook.says hk) (N := 2602) left (Hook.of hk) (Hook.keeps hk) (fun s e => xl_of s (Bool.and_eq_true_iff.mp e).1) XL.keeps (by rfl) (by rfl) (by rfl) (fun s e => recFacts_of (Bool.and_eq_true_iff.mp e).2) (by rfl) (by first | assumption | decide +kernel) (by decide +kernel) ⟨rfl, rfl, rfl, rfl, rfl, by decide +kernel⟩ ?hw ?hc
  case hw => w_witness2
  exact walk_law law_C _ rfl _
end Mine
end

set_option maxRecDepth 100000 in
set_option maxHeartbeats 8000000 in
theorem PySem.Challenge.cw_no0060_01_holds : PySem.Challenge.rw_no0060_01.Holds := by
  exact Mine.final
